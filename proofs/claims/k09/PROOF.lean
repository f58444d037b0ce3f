import PyProof.Rows.All
import Wide.All
import OpenK.AllK
import Wide.FinOn
import KE.KStateDown
import Lean
import HandS.ForMost
import HandS.More
import HandS.WordsExc
import HandS.Defaults
import HandS.IsInst
import HandS.TupAny
import HandS.TupMul
import HandS.Head0
import HandS.Head1
import HandS.Head2
import HandS.HeadEnd
import HandS.HeadHook1
import HandS.HeadHook2
import PyProof.ListMulRoad
import KE.KUnpackStar
import PyProof.FactsAll.tuple_2
import HandS.Style
import HandS.Walk
import HandS.Codes
import KE.LtData
import HandS.Zip
import HandS.Deep
import HandS.TupSets
import HandS.SetKeys
import HandS.BoundDict
import KE.KeyNested
import KE.KDictKeyed
import HandS.CallLocal
import HandS.HeadHook3
import PyProof.WalksMore
import HandS.HeadHook4
import KE.GoesEnum
import KE.GoesMore
import HandS.SetBool
import HandS.Strs
import HandS.SetFor
import HandS.Conv
import PyProof.DictMoreH
import KE.KDictPairs
import HandS.DictComp
import HandS.SortKw
import KE.DataMinMax
import KE.KDictCopyH
import HandS.Rev
import HandS.OwnEq
import HandS.NamedTupGet
import PyProof.InstNe
import KE.KCallOwn
import HandS.MakeKwOnly
import HandS.Text
import HandS.RaiseMore
import HandS.FStr
import HandS.SortInts
import HandS.TupLen
import PyProof.Rows.TupDisplay
import HandS.DictTup
import HandS.SortOrd
import HandS.Exc
import HandS.ExcOwn
import HandS.TryOnly
import HandS.ExcValue
import HandS.ExcIs
import PyProof.NeKinds
import PyProof.ReprRoads
import PyProof.EqKinds
import PyProof.Rows.IntBool
import HandS.Iter
import HandS.ExcInit
import HandS.ExcField
import KE.DataFind
import KE.IntTextLaws
import HandS.MakeKw
import PyProof.StrOps2
import KE.SortData
import KE.KDictZip
import HandS.Zip0
import PyProof.EnumMake
import PySem.Challenge.RW_endlesshall_k09_the_first_fault_of_sever
set_option Elab.async false
set_option linter.all false
set_option maxRecDepth 100000
set_option maxHeartbeats 4000000
set_option autoImplicit false
namespace UX
open PySem PySem.Spec PyProof.Rows L2
abbrev Vls : Type := (PySem.W.Frag → Addr) × List (Str × He.Dv)
abbrev AlU : Type := He.AlT × Bool
def obsU (fa : List He.Fa) (fn : List He.DefD) (ts : List He.Tab) (vs : List Vls) (K : PySem.W.Frag) : AlU := (He.obsT fa fn ts K, vs.all fun q => He.valsB K (q.1 K) q.2)
def valU (fn : List He.DefD) (ts : List He.Tab) (w : World) : AlU := (He.valT fn ts w, true)
def SaysU (fa : List He.Fa) (fn : List He.DefD) (ts : List He.Tab) (vs : List Vls) (w : World) (K : PySem.W.Frag) : Prop := obsU fa fn ts vs K = valU fn ts w
def okT : List String := ["NoneType", "bool", "int", "str", "tuple", "list", "dict"]
def oexB (K : PySem.W.Frag) (C : Addr) : Bool := (match K.lookup C with
  | some ⟨.type "type", _, .cls cd, sl⟩ => (match cd.mro, sl.toList with
    | .ref C' :: bm, [_, _, _, _, some (.builtin n), _] => decide (C' = C) && (decide (n = "ValueError.__new__") && (!cd.hasDel && (cd.hasDict && PySem.HandSPX.refsVE bm)))
    | _, _ => false)
  | _ => false) && (He.eqO (PySem.W.findIn K (.ref C) "__setattr__") (some (some (.builtin "object.__setattr__"))) && (decide (PySem.W.subIn K (.ref C) (.type "BaseException") = some true) && (decide (PySem.W.typeIn K (.ref C) = some (.type "type")) && PySem.W.keepIn K (.ref C))))
inductive FaX where
  | spec (c m : Str) (id : String)
  | obj (c : Str)
  | ins (c : Str)
  | excI (c : Str)
  | kit (c d : Str) (b : Bool)
  | kitT (c : Str) (t : String) (b : Bool)
  | kitA (c : Str) (ds : List Str) (b : Bool)
  | oex (c : Str)
  | exi (c : Str)
  | noa (c f : Str)
  | ebs (c : Str)
def FaX.ok (K : PySem.W.Frag) : FaX → Bool
  | .spec c m id => He.eqO (PySem.W.findIn K (.ref (He.ga K c)) m) (some (some (.builtin id)))
  | .obj c => decide (PySem.W.mroIn K (He.ga K c) (.type "object") = some true)
  | .ins c => He.eqO (PySem.W.findIn K (.ref (He.ga K c)) "__class__") (some (some (.builtin "object.__class__"))) && (He.eqO (PySem.W.specialIn K (.builtin "object.__class__") "__get__") (some (some (.builtin "getset_descriptor.__get__"))) && (decide (PySem.W.takesIn K (.builtin "object.__class__") = some true) && (decide (PySem.W.mroIn K (He.ga K c) (.type "object") = some true) && ((PySem.W.typeIn K (.ref (He.ga K c)) == some (.type "type")) && okT.all fun T => PySem.W.mroIn K (He.ga K c) (.type T) == some false))))
  | .excI c => He.eqO (PySem.W.findIn K (.ref (He.ga K c)) "__getattribute__") (some (some (.builtin "BaseException.__getattribute__"))) && (He.eqO (PySem.W.findIn K (.ref (He.ga K c)) "__getattr__") (some none) && (decide (PySem.W.subIn K (.ref (He.ga K c)) (.type "BaseException") = some true) && (PySem.W.hasDictIn K (He.ga K c) && (He.eqO (PySem.W.findIn K (.ref (He.ga K c)) "__class__") (some (some (.builtin "object.__class__"))) && (He.eqO (PySem.W.specialIn K (.builtin "object.__class__") "__get__") (some (some (.builtin "getset_descriptor.__get__"))) && (decide (PySem.W.takesIn K (.builtin "object.__class__") = some true) && decide (PySem.W.mroIn K (He.ga K c) (.type "object") = some true)))))))
  | .kit c d b => decide (PySem.W.kitOne K (.ref (He.ga K c)) (.ref (He.ga K d)) = some b)
  | .kitT c t b => decide (PySem.W.kitOne K (.ref (He.ga K c)) (.type t) = some b)
  | .kitA c ds b => decide (PySem.W.kitAny K (.ref (He.ga K c)) (ds.map fun d => .ref (He.ga K d)) = some b)
  | .oex c => oexB K (He.ga K c)
  | .exi c => He.eqO (PySem.W.findIn K (.ref (He.ga K c)) "__init__") (some (some (.ref (He.ma K (He.ga K c) "__init__")))) && decide (PySem.W.typeIn K (.ref (He.ma K (He.ga K c) "__init__")) = some (.type "function"))
  | .noa c f => He.eqO (PySem.W.findIn K (.ref (He.ga K c)) f) (some none)
  | .ebs c => PySem.W.readsIn K (He.ga K c) (.type "type") && (He.eqO (PySem.W.specialIn K (.ref (He.ga K c)) "__getattribute__") (some (some (.builtin "type.__getattribute__"))) && (match PySem.W.findCls K (.ref (He.ga K c)) (.type "type") "__init__" with | some (.val (.builtin n)) => decide (n = "ValueError.__init__") | _ => false))
def obsV (fa : List He.Fa) (fn : List He.DefD) (ts : List He.Tab) (vs : List Vls) (xs : List FaX) (K : PySem.W.Frag) : AlU := (He.obsT fa fn ts K, (vs.all fun q => He.valsB K (q.1 K) q.2) && xs.all fun x => x.ok K)
def SaysV (fa : List He.Fa) (fn : List He.DefD) (ts : List He.Tab) (vs : List Vls) (xs : List FaX) (w : World) (K : PySem.W.Frag) : Prop := obsV fa fn ts vs xs K = valU fn ts w
def SysD (K : PySem.W.Frag) : Prop := ∃ o, K.lookup sysModules = some o ∧ o.cls = .type "dict"
def sysB (K : PySem.W.Frag) : Bool := match K.lookup sysModules with
  | some ⟨.type c, _, _, _⟩ => decide (c = "dict")
  | _ => false
theorem sysB_ok {K : PySem.W.Frag} (h : sysB K = true) : SysD K := by
  unfold sysB at h
  split at h
  · rename_i e
    exact ⟨_, e, by rw [of_decide_eq_true h]⟩
  · cases h
def obsSG (n : Nat) (fa : List He.Fa) (fn : List He.DefD) (ts : List He.Tab) (vs : List Vls) (xs : List FaX) (g : Addr → Option Obj) : AlU × Bool := (obsV fa fn ts vs xs (He.frG g (PySem.cStatics :: sysModules :: He.asD g n)), sysB (He.frG g (PySem.cStatics :: sysModules :: He.asD g n)))
def SaysS (fa : List He.Fa) (fn : List He.DefD) (ts : List He.Tab) (vs : List Vls) (xs : List FaX) (w : World) (K : PySem.W.Frag) : Prop := SaysV fa fn ts vs xs w K ∧ SysD K
def hookS (n : Nat) (fa : List He.Fa) (fn : List He.DefD) (ts : List He.Tab) (vs : List Vls) (xs : List FaX) : PySem.W.Hook where
  α := AlU × Bool
  obs := fun s => obsSG n fa fn ts vs xs s.heap.get?
  val := fun w => (valU fn ts w, true)
  says := fun w h => ∃ K : PySem.W.Frag, K.In h ∧ SaysS fa fn ts vs xs w K
  of := fun _ _ e => ⟨_, He.frG_in, congrArg Prod.fst e, sysB_ok (congrArg Prod.snd e)⟩
  keeps := fun _ _ _ ⟨K, hK, c⟩ k => ⟨K, PySem.W.Frag.In.keeps hK k, c⟩
theorem obsSG_eq {n : Nat} {fa : List He.Fa} {fn : List He.DefD} {ts : List He.Tab} {vs : List Vls} {xs : List FaX} {g : Addr → Option Obj} {s : Shared} (h : ∀ a, g a = s.heap.get? a) : obsSG n fa fn ts vs xs g = (hookS n fa fn ts vs xs).obs s := by
  obtain rfl : g = s.heap.get? := funext h
  rfl
end UX
namespace EK
open PySem PySem.Spec PyProof.Rows L2 UX
def top (i : Nat) : Stmt := PySem.Challenge.pw_endlesshall_k09_the_first_fault_of_sever.main.body.getD i (.Pass ⟨0, 0, 0, 0⟩)
def inn (i j : Nat) : Stmt := match top i with
  | .ClassDef _ _ _ b _ _ _ _ _ _ _ => b.getD j (.Pass ⟨0, 0, 0, 0⟩)
  | _ => .Pass ⟨0, 0, 0, 0⟩
namespace HD
def mkD (x : Str) (i : Nat) : He.DefD := ⟨(x, none), x, x, defArgs (top i), defBody (top i), defScope (top i), [], []⟩
def mkMt (c m q : Str) (i j : Nat) : He.DefD := ⟨(c, some m), m, q, defArgs (inn i j), defBody (inn i j), defScope (inn i j), [], []⟩
def fn : List He.DefD := [mkD "_law_hand" 31, mkD "_law_pick" 32, mkD "_law_errors_right" 48, mkD "_law_of" 33, mkD "_law_rooms" 34, mkD "_law_by" 35, mkD "_law_hall" 36, mkD "_law_by_bent" 46, mkD "_law_ways" 45, mkD "_law_bent" 47, mkD "_law_whole" 38, mkD "are_rising" 15, mkD "is_whole" 13, mkD "is_below" 14, mkD "are_rising_below" 16, mkD "are_rooms" 21, mkD "are_pairs" 20, mkD "are_ranks" 22, mkD "are_ways" 19, mkD "fault_of" 25, mkMt "Hall" "__init__" "Hall.__init__" 29 0, mkD "_law_built" 37, mkD "_law_refused" 44, mkD "_law_are_rising" 39, mkD "_law_are_ways" 41, mkD "_law_are_rooms" 40, mkD "_law_is_by" 42, mkD "_law_due" 43, mkD "law" 49, mkMt "NoHall" "__init__" "NoHall.__init__" 3 0, mkMt "NoGame" "__init__" "NoGame.__init__" 4 0, mkMt "NoText" "__init__" "NoText.__init__" 5 0, mkMt "NoSort" "__init__" "NoSort.__init__" 6 0, mkMt "NoName" "__init__" "NoName.__init__" 7 0]
def fa : List He.Fa := [.glo "_law_hand", .glo "_law_pick", .glo "_law_errors_right", .glo "_law_of", .glo "_law_rooms", .glo "_law_by", .glo "_law_hall", .glo "_law_by_bent", .glo "_law_ways", .glo "_law_bent", .glo "_law_whole", .glo "are_rising", .glo "is_whole", .glo "is_below", .glo "are_rising_below", .glo "are_rooms", .glo "are_pairs", .glo "are_ranks", .glo "are_ways", .glo "fault_of", .glo "_law_built", .glo "_law_refused", .glo "_law_are_rising", .glo "_law_are_ways", .glo "_law_are_rooms", .glo "_law_is_by", .glo "_law_due", .glo "law", .free "ValueError", .free "all", .free "bool", .free "enumerate", .free "int", .free "isinstance", .free "len", .free "list", .free "max", .free "range", .free "repr", .free "str", .free "tuple", .free "zip", .glo "Unlike", .glo "TooMany", .glo "NotCertain", .glo "NoLine", .glo "NoHall", .glo "NoGame", .glo "NoText", .glo "NoSort", .glo "NoName", .glo "HallError", .exc "Unlike", .exc "TooMany", .exc "NotCertain", .exc "NoLine", .exm "NoHall" "HallError" true, .exm "NoGame" "HallError" true, .exm "NoText" "HallError" true, .exm "NoSort" "HallError" true, .exm "NoName" "HallError" true, .exm "Unlike" "HallError" true, .exm "TooMany" "HallError" true, .exm "NotCertain" "HallError" true, .exm "NoLine" "HallError" true, .glo "Hall", .cls "Hall", .mkr "Hall", .noat "Hall" "letters", .noat "Hall" "rooms", .noat "Hall" "start", .noat "Hall" "ways", .noat "Hall" "kind", .noat "Hall" "by", .noat "Hall" "goals", .glo "KINDS", .int "MOST_LETTERS" 4]
def ts : List He.Tab := [(fun K => He.ga K "KINDS", ["again", "at last", "pairs", "ranks"])]
def vls : List Vls := [(fun K => He.ga K "KINDS", [("again", .glo "are_rooms"), ("at last", .glo "are_rooms"), ("pairs", .glo "are_pairs"), ("ranks", .glo "are_ranks")])]
def names0 : List PySem.Str := ["_wall", "HallError", "NoHall", "NoGame", "NoText", "NoSort", "NoName", "Unlike", "TooMany", "NotCertain", "NoLine", "is_whole", "is_below", "are_rising", "are_rising_below", "MOST_LETTERS", "are_ways", "are_pairs", "are_rooms", "are_ranks", "KINDS", "WORDS", "fault_of", "joined", "by_rows", "pair_row", "Hall", "_law_hand", "_law_pick", "_law_of"]
def names1 : List PySem.Str := ["_law_rooms", "_law_by", "_law_hall", "_law_built", "_law_whole", "_law_are_rising", "_law_are_rooms", "_law_are_ways", "_law_is_by", "_law_due", "_law_refused", "_law_ways", "_law_by_bent", "_law_bent", "_law_errors_right"]
def xs : List FaX := [.excI "NoHall", .kit "NoHall" "NoHall" true, .kit "NoHall" "NoGame" false, .kit "NoHall" "NoText" false, .kit "NoHall" "NoSort" false, .kit "NoHall" "NoName" false, .kit "NoHall" "Unlike" false, .kit "NoHall" "TooMany" false, .kit "NoHall" "NotCertain" false, .kit "NoHall" "NoLine" false, .kit "NoHall" "HallError" true, .kitT "NoHall" "ValueError" true, .kitA "NoHall" ["NoGame", "NoLine", "NoName", "NoSort", "NoText", "NotCertain", "TooMany", "Unlike"] false, .excI "NoGame", .kit "NoGame" "NoHall" false, .kit "NoGame" "NoGame" true, .kit "NoGame" "NoText" false, .kit "NoGame" "NoSort" false, .kit "NoGame" "NoName" false, .kit "NoGame" "Unlike" false, .kit "NoGame" "TooMany" false, .kit "NoGame" "NotCertain" false, .kit "NoGame" "NoLine" false, .kit "NoGame" "HallError" true, .kitT "NoGame" "ValueError" true, .kitA "NoGame" ["NoGame", "NoLine", "NoName", "NoSort", "NoText", "NotCertain", "TooMany", "Unlike"] true, .excI "NoText", .kit "NoText" "NoHall" false, .kit "NoText" "NoGame" false, .kit "NoText" "NoText" true, .kit "NoText" "NoSort" false, .kit "NoText" "NoName" false, .kit "NoText" "Unlike" false, .kit "NoText" "TooMany" false, .kit "NoText" "NotCertain" false, .kit "NoText" "NoLine" false, .kit "NoText" "HallError" true, .kitT "NoText" "ValueError" true, .kitA "NoText" ["NoGame", "NoLine", "NoName", "NoSort", "NoText", "NotCertain", "TooMany", "Unlike"] true, .excI "NoSort", .kit "NoSort" "NoHall" false, .kit "NoSort" "NoGame" false, .kit "NoSort" "NoText" false, .kit "NoSort" "NoSort" true, .kit "NoSort" "NoName" false, .kit "NoSort" "Unlike" false, .kit "NoSort" "TooMany" false, .kit "NoSort" "NotCertain" false, .kit "NoSort" "NoLine" false, .kit "NoSort" "HallError" true, .kitT "NoSort" "ValueError" true, .kitA "NoSort" ["NoGame", "NoLine", "NoName", "NoSort", "NoText", "NotCertain", "TooMany", "Unlike"] true, .excI "NoName", .kit "NoName" "NoHall" false, .kit "NoName" "NoGame" false, .kit "NoName" "NoText" false, .kit "NoName" "NoSort" false, .kit "NoName" "NoName" true, .kit "NoName" "Unlike" false, .kit "NoName" "TooMany" false, .kit "NoName" "NotCertain" false, .kit "NoName" "NoLine" false, .kit "NoName" "HallError" true, .kitT "NoName" "ValueError" true, .kitA "NoName" ["NoGame", "NoLine", "NoName", "NoSort", "NoText", "NotCertain", "TooMany", "Unlike"] true, .excI "Unlike", .kit "Unlike" "NoHall" false, .kit "Unlike" "NoGame" false, .kit "Unlike" "NoText" false, .kit "Unlike" "NoSort" false, .kit "Unlike" "NoName" false, .kit "Unlike" "Unlike" true, .kit "Unlike" "TooMany" false, .kit "Unlike" "NotCertain" false, .kit "Unlike" "NoLine" false, .kit "Unlike" "HallError" true, .kitT "Unlike" "ValueError" true, .kitA "Unlike" ["NoGame", "NoLine", "NoName", "NoSort", "NoText", "NotCertain", "TooMany", "Unlike"] true, .excI "TooMany", .kit "TooMany" "NoHall" false, .kit "TooMany" "NoGame" false, .kit "TooMany" "NoText" false, .kit "TooMany" "NoSort" false, .kit "TooMany" "NoName" false, .kit "TooMany" "Unlike" false, .kit "TooMany" "TooMany" true, .kit "TooMany" "NotCertain" false, .kit "TooMany" "NoLine" false, .kit "TooMany" "HallError" true, .kitT "TooMany" "ValueError" true, .kitA "TooMany" ["NoGame", "NoLine", "NoName", "NoSort", "NoText", "NotCertain", "TooMany", "Unlike"] true, .excI "NotCertain", .kit "NotCertain" "NoHall" false, .kit "NotCertain" "NoGame" false, .kit "NotCertain" "NoText" false, .kit "NotCertain" "NoSort" false, .kit "NotCertain" "NoName" false, .kit "NotCertain" "Unlike" false, .kit "NotCertain" "TooMany" false, .kit "NotCertain" "NotCertain" true, .kit "NotCertain" "NoLine" false, .kit "NotCertain" "HallError" true, .kitT "NotCertain" "ValueError" true, .kitA "NotCertain" ["NoGame", "NoLine", "NoName", "NoSort", "NoText", "NotCertain", "TooMany", "Unlike"] true, .excI "NoLine", .kit "NoLine" "NoHall" false, .kit "NoLine" "NoGame" false, .kit "NoLine" "NoText" false, .kit "NoLine" "NoSort" false, .kit "NoLine" "NoName" false, .kit "NoLine" "Unlike" false, .kit "NoLine" "TooMany" false, .kit "NoLine" "NotCertain" false, .kit "NoLine" "NoLine" true, .kit "NoLine" "HallError" true, .kitT "NoLine" "ValueError" true, .kitA "NoLine" ["NoGame", "NoLine", "NoName", "NoSort", "NoText", "NotCertain", "TooMany", "Unlike"] true, .oex "NoHall", .exi "NoHall", .noa "NoHall" "why", .oex "NoGame", .exi "NoGame", .noa "NoGame" "why", .oex "NoText", .exi "NoText", .noa "NoText" "row", .oex "NoSort", .exi "NoSort", .noa "NoSort" "asked", .oex "NoName", .exi "NoName", .noa "NoName" "name", .ebs "HallError"]
abbrev Rw : PySem.W.OpenRow := PySem.W.OpenLaw.row PySem.Challenge.rw_endlesshall_k09_the_first_fault_of_sever
abbrev hk : PySem.W.Hook := hookS 6 fa fn ts vls xs
def ob (s : PySem.W.SharedT) : AlU × Bool := obsSG 6 fa fn ts vls xs (HandSHeadRun.getT s)
theorem ob_eq (s : PySem.W.SharedT) : ob s = hk.obs s.abs := obsSG_eq (HandSHeadRun.getT_eq s)
def names : List PySem.Str := names0 ++ names1
abbrev RE (w : World) : Prop := HandSHeadRun.RunEq Rw (PySem.W.view Rw.prog [49]) hk ob 6000 names w
theorem runF (w : World) : RE (w.withFollow "special-get-raises" false) := fun os => by kernel_rfl
theorem runT (w : World) : RE (w.withFollow "special-get-raises" true) := fun os => by kernel_rfl
theorem run (w : World) : HandSHeadRun.RunEq Rw (PySem.W.view Rw.prog [49]) hk ob 6000 names w := PySem.W.byRow2 "special-get-raises" (P := RE) runF runT w
end HD
end EK
namespace EL
open PySem PySem.Spec PyProof.Rows L2
theorem mul_same (l : Addr) (its : Array Value) (n : Nat) (dd : Option Addr) (sl : Array (Option Value)) (x : Int) (u : Tok) (c0 : (decide (x < -(2 ^ 63)) || decide (x ≥ 2 ^ 63)) = false) (c1 : (its.isEmpty || x == 1) = true) :
    Meets (Builtin.«tuple.__mul__» ⟨[.ref l, .int x u], []⟩) (fun _ R s => s.heap.get? l = some { cls := .type "tuple", dict := dd, data := .seq its n, slots := sl } ∧ R (.ok (.ret (Value.ref l))) s) :=
  .of_wp fun prog w A R s h => by
    obtain ⟨hp, g, d, tk, os⟩ := s
    obtain ⟨hl, h⟩ := h
    have f1 := AutoSeq1.idx_int
    wp_walk using wpAny_loadPart' hl
    repeat (first
      | (refine wpAny_ite_false (decide_eq_false (by rw [c0]; exact Bool.false_ne_true)) ?_; wp_walk using wpAny_loadPart' hl)
      | (refine wpAny_ite_true (decide_eq_true c1) ?_; wp_walk using wpAny_loadPart' hl))
    exact ⟨_, rfl, h⟩
theorem mul_none (l : Addr) (its : Array Value) (n : Nat) (dd : Option Addr) (sl : Array (Option Value)) (x : Int) (u : Tok) (c0 : (decide (x < -(2 ^ 63)) || decide (x ≥ 2 ^ 63)) = false) (c1 : (its.isEmpty || x == 1) = false) (c2 : (decide (x ≤ 0) || its.isEmpty) = true) :
    Meets (Builtin.«tuple.__mul__» ⟨[.ref l, .int x u], []⟩) (fun _ R s => s.heap.get? l = some { cls := .type "tuple", dict := dd, data := .seq its n, slots := sl } ∧
      R (.ok (.ret (Value.ref s.heap.objs.size))) { s with heap := s.heap.push { cls := Value.type "tuple", data := Data.seq #[] }, toks := s.toks }) :=
  .of_wp fun prog w A R s h => by
    obtain ⟨hp, g, d, tk, os⟩ := s
    obtain ⟨hl, h⟩ := h
    have f1 := AutoSeq1.idx_int
    wp_walk using wpAny_loadPart' hl
    repeat (first
      | (refine wpAny_ite_false (decide_eq_false (by rw [c0]; exact Bool.false_ne_true)) ?_; wp_walk using wpAny_loadPart' hl)
      | (refine wpAny_ite_false (decide_eq_false (by rw [c1]; exact Bool.false_ne_true)) ?_; wp_walk using wpAny_loadPart' hl)
      | (refine wpAny_ite_true (decide_eq_true c2) ?_; wp_walk using wpAny_loadPart' hl))
    exact ⟨_, rfl, h⟩
def rRepA (K : PySem.W.Frag) : R2 := fun x y H Q => ∃ l k xs, x = .ref l ∧ y = .int k ∧ SqT K H l xs ∧ 0 ≤ k ∧ k ≤ 1000 ∧ xs.length ≤ 1000 ∧ ((xs = [] ∨ k = 1) → Q (.ref l) H) ∧
  (xs ≠ [] → k ≠ 1 → ∀ p, H p = none → Q (.ref p) (upd H p (.tup (List.replicate k.toNat xs).flatten)))
section
variable {X : Cx}
theorem op_repA : OpR X (binaryOp .Mult) (rRepA X.K) := by
  intro pins s σ H x y v u Q I rx ry h
  obtain ⟨l, k, xs, rfl, rfl, hT, k0, k1, hz, q1, q2⟩ := h
  by_cases hs : xs = [] ∨ k = 1
  · cases rx
    obtain ⟨t, rfl⟩ := ry
    obtain ⟨its, r, ⟨⟨cls, dd, data, sl⟩, ho, hc, n, hd⟩, hsz⟩ := I.tuple hT
    simp only at hc hd
    subst hc hd
    have c0 : (decide (k < -(2 ^ 63)) || decide (k ≥ 2 ^ 63)) = false := by
      rw [decide_eq_false (by omega), decide_eq_false (by omega)]; rfl
    have c1 : (its.toArray.isEmpty || k == 1) = true := by
      rcases hs with e | e
      · subst e
        have : its = [] := List.eq_nil_of_length_eq_zero r.length.symm
        subst this
        rfl
      · subst e
        exact Bool.or_true _
    exact wpAny_binaryOp_repeat_ref (T := "tuple") (U := "int") (by decide) ⟨_, ho, rfl⟩ (fun s' => typeIs_int s' k t) noFill_tuple_mul F.fills_int_mul F.slot_int_rmul repeat_tuple F.slot_int_index.lookup
      (call_meets F.slot_int_rmul (typeIs_int s k t) F.entry_int_rmul (F.args_int_rmul_2 _ _) (int_rmul_tuple k t l its.toArray n dd sl)
        ⟨ho, rfl, ⟨_, ho, rfl⟩, call_meets F.slot_tuple_mul ⟨_, ho, rfl⟩ F.entry_tuple_mul (F.args_tuple_mul_2 _ _) (mul_same l its.toArray n dd sl k t c0 c1) ⟨ho, ⟨.ref l, H, I, rfl, q1 hs⟩⟩⟩)
  · have hx : xs ≠ [] := fun e => hs (.inl e)
    have hk1 : k ≠ 1 := fun e => hs (.inr e)
    by_cases h2 : 2 ≤ k
    · exact op_repT pins s σ H _ _ v u Q I rx ry ⟨l, k, xs, rfl, rfl, hT, hx, h2, k1, hz, q2 hx hk1⟩
    · have e0 : k = 0 := by omega
      subst e0
      cases rx
      obtain ⟨t, rfl⟩ := ry
      obtain ⟨its, r, ⟨⟨cls, dd, data, sl⟩, ho, hc, n, hd⟩, hsz⟩ := I.tuple hT
      simp only at hc hd
      subst hc hd
      have hi : its.toArray.isEmpty = false := by
        cases its with
        | nil => exact absurd (List.eq_nil_of_length_eq_zero r.length) hx
        | cons a b => rfl
      refine wpAny_binaryOp_repeat_ref (T := "tuple") (U := "int") (by decide) ⟨_, ho, rfl⟩ (fun s' => typeIs_int s' 0 t) noFill_tuple_mul F.fills_int_mul F.slot_int_rmul repeat_tuple F.slot_int_index.lookup
        (call_meets F.slot_int_rmul (typeIs_int s 0 t) F.entry_int_rmul (F.args_int_rmul_2 _ _) (int_rmul_tuple 0 t l its.toArray n dd sl)
          ⟨ho, rfl, ⟨_, ho, rfl⟩, call_meets F.slot_tuple_mul ⟨_, ho, rfl⟩ F.entry_tuple_mul (F.args_tuple_mul_2 _ _) (mul_none l its.toArray n dd sl 0 t (by decide) (by rw [hi]; rfl) (by rw [hi]; rfl)) ⟨ho, ?_⟩⟩)
      refine ⟨.ref s.heap.objs.size, _, I.laid (t' := s.toks) (o := .tup []) (fun b ob z => Heap.get?_push_of_some _ z) (Nat.le_refl _) ?_, rfl, q2 hx hk1 _ (I.hok.fresh (Nat.le_refl _))⟩
      exact ⟨Nat.zero_le _, [], .nil, IsTup.new _ _⟩
end
def gStarLast (K : PySem.W.Frag) (i j : Nat) : TG := fun v σ H Q => ∃ a xs y, v = .ref a ∧ SqT K H a (xs ++ [y]) ∧ xs.length ≤ 16000 ∧ ∀ p, H p = none → Q ((σ.set i (some (.ref p))).set j (some y)) (upd H p (.lst xs))
section
variable {X : Cx}
end
def Ex (H H' : Hp) : Prop := ∀ a o, H a = some o → H' a = some o
theorem Ex.refl (H : Hp) : Ex H H := fun _ _ h => h
theorem Ex.trans {H H1 H2 : Hp} (a : Ex H H1) (b : Ex H1 H2) : Ex H H2 := fun x o h => b x o (a x o h)
theorem Ex.new {H : Hp} {p : Addr} {o : HO} (h : H p = none) : Ex H (upd H p o) := fun a u e => by
  rw [upd_ne (ne_of_none e h)]; exact e
theorem Ex.mut {H H' : Hp} {p : Addr} {o : HO} (e : Ex H H') (h : H p = none) : Ex H (upd H' p o) := fun a u ha => by
  rw [upd_ne (ne_of_none ha h)]; exact e a u ha
theorem Ex.free {H H' : Hp} (e : Ex H H') {p : Addr} (h : H' p = none) : H p = none := by
  cases q : H p with
  | none => rfl
  | some o => rw [e p o q] at h; cases h
abbrev Bn := Addr → Prop
structure RB (B : Bn) (H H' : Hp) : Prop where
  keep : ∀ a o, ¬ B a → H a = some o → H' a = some o
  tup : ∀ a xs, H a = some (.tup xs) → H' a = some (.tup xs)
  frz : ∀ a o u, H a = some (.frz o u) → H' a = some (.frz o u)
  ban : ∀ a, B a → H a ≠ none → H' a ≠ none
def BOk (B : Bn) (H : Hp) : Prop := ∀ a, B a → H a ≠ none
theorem RB.refl {B : Bn} (H : Hp) : RB B H H := ⟨fun _ _ _ h => h, fun _ _ h => h, fun _ _ _ h => h, fun _ _ h => h⟩
theorem RB.trans {B : Bn} {H H1 H2 : Hp} (a : RB B H H1) (b : RB B H1 H2) : RB B H H2 :=
  ⟨fun x o n h => b.keep x o n (a.keep x o n h), fun x o h => b.tup x o (a.tup x o h), fun x o u h => b.frz x o u (a.frz x o u h), fun x n h => b.ban x n (a.ban x n h)⟩
theorem RB.of_ex {B : Bn} {H H' : Hp} (e : Ex H H') : RB B H H' := ⟨fun a o _ h => e a o h, fun a o h => e a _ h, fun a o u h => e a _ h, fun a _ h => by
  cases q : H a with
  | none => exact absurd q h
  | some o => rw [e a o q]; exact fun z => nomatch z⟩
theorem RB.sub {B B' : Bn} {H H' : Hp} (s : ∀ a, B a → B' a) (r : RB B H H') : RB B' H H' := ⟨fun a o n h => r.keep a o (fun z => n (s a z)) h, r.tup, r.frz, fun a _ h => by
  rcases Classical.em (B a) with q | q
  · exact r.ban a q h
  · cases e : H a with
    | none => exact absurd e h
    | some o => rw [r.keep a o q e]; exact fun z => nomatch z⟩
theorem BOk.mono {B : Bn} {H H' : Hp} (o : BOk B H) (r : RB B H H') : BOk B H' := fun a b => r.ban a b (o a b)
theorem BOk.none {H : Hp} : BOk (fun _ => False) H := fun _ z => z.elim
theorem RB.sqT {B : Bn} {K : PySem.W.Frag} {H H' : Hp} {a : Addr} {xs : List V} (r : RB B H H') (h : SqT K H a xs) : SqT K H' a xs := by
  rcases h with (h | ⟨o, h⟩) | h
  · exact .inl (.inl (r.tup _ _ h))
  · exact .inl (.inr ⟨o, r.frz _ _ _ h⟩)
  · exact .inr h
theorem RB.sqL {B : Bn} {K : PySem.W.Frag} {H H' : Hp} {a : Addr} {xs : List V} (r : RB B H H') (n : ¬ B a) (h : SqL K H a xs) : SqL K H' a xs := by
  rcases h with (h | ⟨o, h⟩) | h
  · exact .inl (.inl (r.keep _ _ n h))
  · exact .inl (.inr ⟨o, r.frz _ _ _ h⟩)
  · exact .inr h
theorem Ex.sqT {K : PySem.W.Frag} {H H' : Hp} {a : Addr} {xs : List V} (r : Ex H H') (h : SqT K H a xs) : SqT K H' a xs := (RB.of_ex (B := fun _ => False) r).sqT h
theorem Ex.sqL {K : PySem.W.Frag} {H H' : Hp} {a : Addr} {xs : List V} (r : Ex H H') (h : SqL K H a xs) : SqL K H' a xs := (RB.of_ex (B := fun _ => False) r).sqL (fun z => z) h
theorem sqT_of {K : PySem.W.Frag} {H : Hp} {a : Addr} {xs : List V} (h : H a = some (.tup xs)) : SqT K H a xs := .inl (.inl h)
theorem sqL_of {K : PySem.W.Frag} {H : Hp} {a : Addr} {xs : List V} (h : H a = some (.lst xs)) : SqL K H a xs := .inl (.inl h)
class Rok (B : Bn) (R : Hp → Hp → Prop) : Prop where
  rf : ∀ H, R H H
  tr : ∀ {H H1 H2}, R H H1 → R H1 H2 → R H H2
  ex : ∀ {H H'}, Ex H H' → R H H'
  rb : ∀ {H H'}, R H H' → RB B H H'
instance {B : Bn} : Rok B Ex := ⟨Ex.refl, Ex.trans, id, RB.of_ex⟩
instance {B : Bn} : Rok B (RB B) := ⟨RB.refl, RB.trans, RB.of_ex, id⟩
abbrev PV := V → Hp → Prop
class Stb (B : Bn) (p : PV) : Prop where
  st : ∀ {H H' v}, RB B H H' → p v H → p v H'
def isP (v : V) : PV := fun x _ => x = v
instance {B : Bn} {v : V} : Stb B (isP v) := ⟨fun _ h => h⟩
def exP {α : Type} (C : α → Prop) (q : α → PV) : PV := fun v H => ∃ a, C a ∧ q a v H
instance {B : Bn} {α : Type} {C : α → Prop} {q : α → PV} [∀ a, Stb B (q a)] : Stb B (exP C q) := ⟨fun r ⟨a, c, h⟩ => ⟨a, c, Stb.st r h⟩⟩
section
variable (K : PySem.W.Frag) (B : Bn)
mutual
/-- v is the data d, whose lists are none of B -/
def im : PyData → PV
  | .none => isP .non
  | .bool b => isP (.bl b)
  | .int i => isP (.int i)
  | .str x => isP (.str x)
  | .tuple ds => fun v H => ∃ a vs, v = .ref a ∧ SqT K H a vs ∧ imAll ds vs H
  | .list ds => fun v H => ∃ a vs, v = .ref a ∧ ¬ B a ∧ SqL K H a vs ∧ imAll ds vs H
  | .dict _ => fun _ _ => False
def imAll : List PyData → List V → Hp → Prop
  | [], vs, _ => vs = []
  | d :: ds, vs, H => ∃ v r, vs = v :: r ∧ im d v H ∧ imAll ds r H
end
end
section
variable {K : PySem.W.Frag} {B : Bn} {H H' : Hp} {v : V} {d : PyData}
mutual
theorem im_st (r : RB B H H') : ∀ (d : PyData) (v : V), im K B d v H → im K B d v H'
  | .none, _, h => h
  | .bool _, _, h => h
  | .int _, _, h => h
  | .str _, _, h => h
  | .tuple ds, _, ⟨a, vs, e, s, q⟩ => ⟨a, vs, e, r.sqT s, imAll_st r ds vs q⟩
  | .list ds, _, ⟨a, vs, e, n, s, q⟩ => ⟨a, vs, e, n, r.sqL n s, imAll_st r ds vs q⟩
  | .dict _, _, h => h.elim
theorem imAll_st (r : RB B H H') : ∀ (ds : List PyData) (vs : List V), imAll K B ds vs H → imAll K B ds vs H'
  | [], _, h => h
  | d :: ds, _, ⟨v, w, e, h1, h2⟩ => ⟨v, w, e, im_st r d v h1, imAll_st r ds w h2⟩
end
instance : Stb B (im K B d) := ⟨fun r h => im_st r _ _ h⟩
theorem imAll_len : ∀ {ds : List PyData} {vs : List V}, imAll K B ds vs H → vs.length = ds.length
  | [], _, h => by rw [show _ = _ from h]; rfl
  | d :: ds, _, ⟨v, w, e, _, h2⟩ => by rw [e, List.length_cons, List.length_cons, imAll_len h2]
theorem imAll_get : ∀ {ds : List PyData} {vs : List V} {i : Nat} {d : PyData}, imAll K B ds vs H → ds[i]? = some d → ∃ v, vs[i]? = some v ∧ im K B d v H
  | [], _, _, _, _, e => by simp at e
  | d :: ds, _, 0, d', ⟨v, w, e, h1, h2⟩, e' => by
    simp at e'; subst e' e; exact ⟨v, rfl, h1⟩
  | d :: ds, _, i + 1, d', ⟨v, w, e, h1, h2⟩, e' => by
    subst e
    obtain ⟨x, e1, e2⟩ := imAll_get (i := i) h2 (by simpa using e')
    exact ⟨x, by simpa using e1, e2⟩
theorem imAll_getV : ∀ {ds : List PyData} {vs : List V} {i : Nat} {v : V}, imAll K B ds vs H → vs[i]? = some v → ∃ d, ds[i]? = some d ∧ im K B d v H
  | [], _, _, _, h, e => by rw [show _ = _ from h] at e; simp at e
  | d :: ds, _, 0, v', ⟨v, w, e, h1, h2⟩, e' => by
    subst e; simp at e'; subst e'; exact ⟨d, rfl, h1⟩
  | d :: ds, _, i + 1, v', ⟨v, w, e, h1, h2⟩, e' => by
    subst e
    obtain ⟨x, e1, e2⟩ := imAll_getV (i := i) h2 (by simpa using e')
    exact ⟨x, by simpa using e1, e2⟩
theorem imAll_append : ∀ {ds es : List PyData} {vs ws : List V}, imAll K B ds vs H → imAll K B es ws H → imAll K B (ds ++ es) (vs ++ ws) H
  | [], _, _, _, h, h' => by rw [show _ = _ from h]; exact h'
  | d :: ds, es, _, ws, ⟨v, w, e, h1, h2⟩, h' => by
    subst e; exact ⟨v, w ++ ws, rfl, h1, imAll_append h2 h'⟩
theorem imAll_snoc {ds : List PyData} {vs : List V} {d : PyData} {v : V} (h : imAll K B ds vs H) (h' : im K B d v H) : imAll K B (ds ++ [d]) (vs ++ [v]) H := imAll_append h ⟨v, [], rfl, h', rfl⟩
theorem imAll_take : ∀ {ds : List PyData} {vs : List V} (n : Nat), imAll K B ds vs H → imAll K B (ds.take n) (vs.take n) H
  | _, _, 0, _ => rfl
  | [], _, n + 1, h => by rw [show _ = _ from h]; rfl
  | d :: ds, _, n + 1, ⟨v, w, e, h1, h2⟩ => by subst e; exact ⟨v, _, rfl, h1, imAll_take n h2⟩
theorem imAll_drop : ∀ {ds : List PyData} {vs : List V} (n : Nat), imAll K B ds vs H → imAll K B (ds.drop n) (vs.drop n) H
  | _, _, 0, h => h
  | [], _, n + 1, h => by rw [show _ = _ from h]; rfl
  | d :: ds, _, n + 1, ⟨v, w, e, h1, h2⟩ => by subst e; exact imAll_drop n h2
theorem imAll_bools : ∀ {bs : List Bool} {vs : List V}, imAll K B (bs.map .bool) vs H ↔ vs = bs.map .bl
  | [], vs => Iff.rfl
  | n :: ns, vs => by
    constructor
    · rintro ⟨v, w, e, h1, h2⟩
      rw [e, show v = .bl n from h1, imAll_bools.mp h2]; rfl
    · intro e
      exact ⟨.bl n, ns.map .bl, e, rfl, imAll_bools.mpr rfl⟩
mutual
theorem im_dp : ∀ (d : PyData) (v : V), im K B d v H → Dp K H v d
  | .none, _, h => by cases h; exact .non
  | .bool _, _, h => by cases h; exact .bl _
  | .int _, _, h => by cases h; exact .int _
  | .str _, _, h => by cases h; exact .str _
  | .tuple ds, _, ⟨a, vs, e, s, q⟩ => by subst e; exact .tup s (imAll_dp ds vs q)
  | .list ds, _, ⟨a, vs, e, n, s, q⟩ => by subst e; exact .lst s (imAll_dp ds vs q)
  | .dict _, _, h => h.elim
theorem imAll_dp : ∀ (ds : List PyData) (vs : List V), imAll K B ds vs H → DpAll K H vs ds
  | [], _, h => by rw [show _ = _ from h]; exact .nil
  | d :: ds, _, ⟨v, w, e, h1, h2⟩ => by subst e; exact .cons (im_dp d v h1) (imAll_dp ds w h2)
end
end
structure SD (B : Bn) (H : Hp) (σ : L2.St) (δ : List (Option PV)) : Prop where
  ok : BOk B H
  len : σ.length = δ.length
  at_ : ∀ (i : Nat) (p : PV), δ[i]? = some (some p) → Stb B p ∧ ∃ v, σ[i]? = some (some v) ∧ p v H
def wip (δ : List (Option PV)) : List Nat → List (Option PV)
  | [] => δ
  | v :: vs => (wip δ vs).set v none
section
variable {B : Bn} {H H' : Hp} {σ : L2.St} {δ : List (Option PV)} {p : PV} {v : V} {i : Nat}
theorem SD.mono (s : SD B H σ δ) (r : RB B H H') : SD B H' σ δ := ⟨s.ok.mono r, s.len, fun i p e => by
  obtain ⟨hp, v, h1, h2⟩ := s.at_ i p e
  exact ⟨hp, v, h1, hp.st r h2⟩⟩
theorem SD.set (s : SD B H σ δ) [hp : Stb B p] (h : p v H) : SD B H (σ.set i (some v)) (δ.set i (some p)) := by
  refine ⟨s.ok, by rw [List.length_set, List.length_set, s.len], fun j q e => ?_⟩
  by_cases hj : i = j
  · subst hj
    have hl : i < δ.length := by
      rcases Nat.lt_or_ge i δ.length with z | z
      · exact z
      · rw [List.getElem?_eq_none (by rw [List.length_set]; exact z)] at e; cases e
    rw [List.getElem?_set_self hl] at e
    cases e
    exact ⟨hp, v, List.getElem?_set_self (by rw [s.len]; exact hl), h⟩
  · rw [List.getElem?_set_ne hj] at e
    obtain ⟨hq, w, h1, h2⟩ := s.at_ j q e
    exact ⟨hq, w, by rw [List.getElem?_set_ne hj]; exact h1, h2⟩
theorem SD.unset (s : SD B H σ δ) {o : Option V} : SD B H (σ.set i o) (δ.set i none) := by
  refine ⟨s.ok, by rw [List.length_set, List.length_set, s.len], fun j q e => ?_⟩
  by_cases hj : i = j
  · subst hj
    have hl : i < δ.length := by
      rcases Nat.lt_or_ge i δ.length with z | z
      · exact z
      · rw [List.getElem?_eq_none (by rw [List.length_set]; exact z)] at e; cases e
    rw [List.getElem?_set_self hl] at e
    cases e
  · rw [List.getElem?_set_ne hj] at e
    obtain ⟨hq, w, h1, h2⟩ := s.at_ j q e
    exact ⟨hq, w, by rw [List.getElem?_set_ne hj]; exact h1, h2⟩
theorem SD.wipe (s : SD B H σ δ) : ∀ vs : List Nat, SD B H (wipe σ vs) (wip δ vs)
  | [] => s
  | v :: vs => (SD.wipe s vs).unset
def Weak : List (Option PV) → List (Option PV) → Prop
  | [], [] => True
  | _ :: a, none :: b => Weak a b
  | x :: a, y :: b => x = y ∧ Weak a b
  | _, _ => False
theorem Weak.len : ∀ {a b : List (Option PV)}, Weak a b → a.length = b.length
  | [], [], _ => rfl
  | _ :: a, none :: b, h => by rw [List.length_cons, List.length_cons, Weak.len (a := a) (b := b) h]
  | _ :: a, some _ :: b, h => by rw [List.length_cons, List.length_cons, Weak.len (a := a) (b := b) h.2]
  | [], _ :: _, h => h.elim
  | _ :: _, [], h => by cases h
theorem Weak.get : ∀ {a b : List (Option PV)} {i : Nat} {p : PV}, Weak a b → b[i]? = some (some p) → a[i]? = some (some p)
  | [], [], _, _, _, e => by simp at e
  | x :: a, none :: b, 0, p, _, e => by simp at e
  | x :: a, none :: b, i + 1, p, h, e => by
    have := Weak.get (a := a) (b := b) (i := i) (p := p) h (by simpa using e)
    simpa using this
  | x :: a, some y :: b, 0, p, h, e => by
    have e1 : y = p := by simpa using e
    rw [show x = some y from h.1, e1]; rfl
  | x :: a, some y :: b, i + 1, p, h, e => by
    have := Weak.get (a := a) (b := b) (i := i) (p := p) h.2 (by simpa using e)
    simpa using this
  | [], _ :: _, _, _, h, _ => h.elim
  | _ :: _, [], _, _, h, _ => by cases h
theorem SD.weak {δ' : List (Option PV)} (s : SD B H σ δ) (w : Weak δ δ') : SD B H σ δ' := ⟨s.ok, s.len.trans w.len, fun i p e => s.at_ i p (w.get e)⟩
theorem SD.get (s : SD B H σ δ) (e : δ[i]? = some (some p)) : ∃ v, σ[i]? = some (some v) ∧ p v H := (s.at_ i p e).2
end
section
variable (R : Hp → Hp → Prop) (B : Bn)
def Ev (te : TE) (δ : List (Option PV)) (H : Hp) (p : PV) : Prop := ∀ σ H1, R H H1 → SD B H1 σ δ → ∀ Q : VK, (∀ v H2, R H1 H2 → p v H2 → Q v H2) → te σ H1 Q
def EvT (tt : TT) (δ : List (Option PV)) (H : Hp) (b : Bool) : Prop := ∀ σ H1, R H H1 → SD B H1 σ δ → ∀ Q : Bool → Hp → Prop, (∀ H2, R H1 H2 → Q b H2) → tt σ H1 Q
def EvTx (tt : TT) (δ : List (Option PV)) (H : Hp) (C : Bool → Prop) : Prop := ∀ σ H1, R H H1 → SD B H1 σ δ → ∀ Q : Bool → Hp → Prop, (∀ b H2, C b → R H1 H2 → Q b H2) → tt σ H1 Q
def pAll : List PV → List V → Hp → Prop
  | [], vs, _ => vs = []
  | p :: ps, vs, H => ∃ v r, vs = v :: r ∧ p v H ∧ pAll ps r H
def EvA (ta : TA) (δ : List (Option PV)) (H : Hp) (ps : List PV) : Prop := ∀ σ H1, R H H1 → SD B H1 σ δ → ∀ Q : List V → Hp → Prop, (∀ vs H2, R H1 H2 → pAll ps vs H2 → Q vs H2) → ta σ H1 Q
def EvO (to : TO) (δ : List (Option PV)) (H : Hp) (o : Option Int) : Prop := ∀ σ H1, R H H1 → SD B H1 σ δ → ∀ Q : Option Int → Hp → Prop, (∀ H2, R H1 H2 → Q o H2) → to σ H1 Q
def RV (r : R2) (x y : V) (H : Hp) (p : PV) : Prop := ∀ Q : VK, (∀ v H2, Ex H H2 → p v H2 → Q v H2) → r x y H Q
def RC (r : List V → Hp → VK → Prop) (vs : List V) (H : Hp) (p : PV) : Prop := ∀ Q : VK, (∀ v H2, R H H2 → p v H2 → Q v H2) → r vs H Q
end
def rOr (r r' : R2) : R2 := fun x y H Q => r x y H Q ∨ r' x y H Q
def rSlOr (r r' : V → Option Int → Option Int → Hp → VK → Prop) : V → Option Int → Option Int → Hp → VK → Prop := fun x lo hi H Q => r x lo hi H Q ∨ r' x lo hi H Q
def iOr (w w' : TI) : TI := fun σ H R => w σ H R ∨ w' σ H R
def rAddS : R2 := fun x y H Q => ∃ i j : Str, x = .str i ∧ y = .str j ∧ i.length + j.length ≤ sizeLine ∧ Q (.str (i ++ j)) H
def rAddU (K : PySem.W.Frag) : R2 := rOr (rI0 fun i j => .int (i + j)) (rOr (rCatA K) (rOr rCat rAddS))
def rMulU (K : PySem.W.Frag) : R2 := rOr (rI CMul fun i j => .int (i * j)) (rOr (rRepA K) rRep)
def rEqU (K : PySem.W.Frag) : R2 := rOr (rEqD K) rEq
def rNeU (K : PySem.W.Frag) : R2 := rOr (rNeD K) rNe
def rSlU (K : PySem.W.Frag) : V → Option Int → Option Int → Hp → VK → Prop := rSlOr (rSlL K) (rSlA K)
def iSeqU (K : PySem.W.Frag) (t : TE) : TI := iOr (iList K t) (iTup K t)
section
variable {X : Cx}
theorem op_or {f : Value → Value → Sem Value} {r r' : R2} (h : OpR X f r) (h' : OpR X f r') : OpR X f (rOr r r') := fun pins s σ H x y v u Q I rx ry q => by
  rcases q with q | q
  · exact h pins s σ H x y v u Q I rx ry q
  · exact h' pins s σ H x y v u Q I rx ry q
theorem op_addU : OpR X (binaryOp .Add) (rAddU X.K) := op_or op_add (op_or op_catA (op_or op_cat op_add_str))
theorem op_mulU : OpR X (binaryOp .Mult) (rMulU X.K) := op_or op_mul (op_or op_repA op_rep)
theorem op_eqU (hu : X.A.units + 64 < cLine) : OpR X (compareOp .Eq) (rEqU X.K) := op_or (op_eqD hu) op_eq
theorem op_neU (hu : X.A.units + 64 < cLine) : OpR X (compareOp .NotEq) (rNeU X.K) := op_or (op_neD hu) op_ne
theorem sl_seqU : SlR X (rSlU X.K) := SlR.or sl_list sl_tupA
theorem pi_or {tg l : Expr} {w w' : TI} (h : PI X tg l w) (h' : PI X tg l w') : PI X tg l (iOr w w') := ⟨fun pins s σ H R I q => by
  rcases q with q | q
  · exact h.run pins s σ H R I q
  · exact h'.run pins s σ H R I q⟩
theorem pi_seqU {tg l : Expr} {t : TE} (h : PE X l t) : PI X tg l (iSeqU X.K t) := pi_or (pi_list h) (pi_tup h)
end
section
variable {R : Hp → Hp → Prop} {B : Bn} [rk : Rok B R] {K : PySem.W.Frag} {δ : List (Option PV)} {H H' : Hp} {ta tb tc te : TE} {p q w : PV} {tt tu : TT}
theorem Ev.at_ (h : Ev R B te δ H p) (r : R H H') : Ev R B te δ H' p := fun σ H2 r2 => h σ H2 (rk.tr r r2)
theorem EvT.at_ {b : Bool} (h : EvT R B tt δ H b) (r : R H H') : EvT R B tt δ H' b := fun σ H2 r2 => h σ H2 (rk.tr r r2)
theorem Ev.conv (h : Ev R B te δ H p) (c : ∀ v H1, R H H1 → p v H1 → q v H1) : Ev R B te δ H q := fun σ H1 r S Q k => h σ H1 r S Q fun v H2 r2 pv => k v H2 r2 (c v H2 (rk.tr r r2) pv)
theorem Ev.is (h : Ev R B te δ H p) (e : p = q) : Ev R B te δ H q := e ▸ h
theorem ev_var {i : Nat} (h : δ[i]? = some (some p)) : Ev R B (tVar i) δ H p := fun σ H1 r S Q k => let ⟨v, e, pv⟩ := S.get h; ⟨v, e, k v H1 (rk.rf H1) pv⟩
theorem ev_c {v : V} : Ev R B (tC v) δ H (isP v) := fun σ H1 r S Q k => k v H1 (rk.rf H1) rfl
theorem ev_int {i : Int} : Ev R B (tC (.int i)) δ H (im K B (.int i)) := ev_c
theorem ev_str {x : Str} : Ev R B (tC (.str x)) δ H (im K B (.str x)) := ev_c
theorem ev_non : Ev R B (tC .non) δ H (im K B .none) := ev_c
theorem ev_op {r : R2} [Stb B p] (ha : Ev R B ta δ H p) (hb : Ev R B tb δ H q) (hr : ∀ x y H1, R H H1 → BOk B H1 → p x H1 → q y H1 → RV r x y H1 w) : Ev R B (tOp r ta tb) δ H w :=
  fun σ H1 r1 S Q k => ha σ H1 r1 S _ fun x H2 r2 px => hb σ H2 (rk.tr r1 r2) (S.mono (rk.rb r2)) _ fun y H3 r3 qy =>
    hr x y H3 (rk.tr (rk.tr r1 r2) r3) (S.ok.mono ((rk.rb r2).trans (rk.rb r3))) (Stb.st (rk.rb r3) px) qy Q fun v H4 e4 wv => k v H4 (rk.tr (rk.tr r2 r3) (rk.ex e4)) wv
theorem ev_un {r : V → Hp → VK → Prop} (ha : Ev R B ta δ H p) (hr : ∀ x H1, R H H1 → p x H1 → ∀ Q : VK, (∀ v H2, Ex H1 H2 → w v H2 → Q v H2) → r x H1 Q) : Ev R B (tUn r ta) δ H w :=
  fun σ H1 r1 S Q k => ha σ H1 r1 S _ fun x H2 r2 px => hr x H2 (rk.tr r1 r2) px Q fun v H3 e3 wv => k v H3 (rk.tr r2 (rk.ex e3)) wv
theorem ev_neg {i : Int} (ha : Ev R B ta δ H (im K B (.int i))) : Ev R B (tUn (rU fun i => .int (-i)) ta) δ H (im K B (.int (-i))) :=
  ev_un ha fun x H1 _ hx Q k => ⟨i, hx, k _ H1 (Ex.refl H1) rfl⟩
theorem atI_im {ds : List PyData} {vs : List V} {i : Int} {d : PyData} (h : imAll K B ds vs H) (e : atI ds i = some d) : ∃ v, atI vs i = some v ∧ im K B d v H := by
  unfold atI at e ⊢
  rw [imAll_len h]
  cases q : ixN ds.length i with
  | none => rw [q] at e; cases e
  | some j =>
    rw [q] at e
    obtain ⟨v, e1, e2⟩ := imAll_get h (show ds[j]? = some d from e)
    exact ⟨v, e1, e2⟩
theorem ea_nil : EvA R B tNil δ H [] := fun σ H1 r S Q k => k [] H1 (rk.rf H1) rfl
theorem ea_cons {tr : TA} {ps : List PV} [Stb B p] (h : Ev R B ta δ H p) (hr : EvA R B tr δ H ps) : EvA R B (tCons ta tr) δ H (p :: ps) := fun σ H1 r S Q k =>
  h σ H1 r S _ fun v H2 r2 pv => hr σ H2 (rk.tr r r2) (S.mono (rk.rb r2)) _ fun vs H3 r3 pr => k (v :: vs) H3 (rk.tr r2 r3) ⟨v, vs, rfl, Stb.st (rk.rb r3) pv, pr⟩
theorem ev_cb {r : List V → Hp → VK → Prop} {ta : TA} {ps : List PV} (h : EvA R B ta δ H ps) (hr : ∀ vs H1, R H H1 → BOk B H1 → pAll ps vs H1 → RC R r vs H1 w) : Ev R B (tCB r ta) δ H w := fun σ H1 r1 S Q k =>
  h σ H1 r1 S _ fun vs H2 r2 pr => hr vs H2 (rk.tr r1 r2) (S.ok.mono (rk.rb r2)) pr Q fun v H3 r3 wv => k v H3 (rk.tr r2 r3) wv
theorem imAll_of_pAll : ∀ {ds : List PyData} {vs : List V}, pAll (ds.map (im K B)) vs H → imAll K B ds vs H
  | [], _, h => h
  | d :: ds, _, ⟨v, r, e, h1, h2⟩ => ⟨v, r, e, h1, imAll_of_pAll h2⟩
theorem ev_tup {ta : TA} {ds : List PyData} (h : EvA R B ta δ H (ds.map (im K B))) (hl : ds.length ≤ sizeLine) : Ev R B (tTup ta) δ H (im K B (.tuple ds)) := fun σ H1 r1 S Q k =>
  h σ H1 r1 S _ fun vs H2 r2 pr => by
    have hv := imAll_of_pAll pr
    refine ⟨by rw [imAll_len hv]; exact hl, fun a ha => k _ _ (rk.tr r2 (rk.ex (Ex.new ha))) ⟨a, vs, rfl, sqT_of upd_same, imAll_st (RB.of_ex (Ex.new ha)) _ _ hv⟩⟩
def rLenQ (K : PySem.W.Frag) : List V → Hp → VK → Prop := fun xs H Q => ∃ p ys, xs = [.ref p] ∧ (SqL K H p ys ∨ SqT K H p ys) ∧ Q (.int ys.length) H
def rTupQ (K : PySem.W.Frag) : List V → Hp → VK → Prop := fun xs H Q => ∃ p ys, xs = [.ref p] ∧ ((SqL K H p ys ∧ ∀ l, H l = none → Q (.ref l) (upd H l (.tup ys))) ∨ (SqT K H p ys ∧ Q (.ref p) H))
def rListQ (K : PySem.W.Frag) : List V → Hp → VK → Prop := fun xs H Q => ∃ p ys, xs = [.ref p] ∧ (SqL K H p ys ∨ SqT K H p ys) ∧ ∀ l, H l = none → Q (.ref l) (upd H l (.lst ys))
theorem imAll_rep {ds : List PyData} {vs : List V} (h : imAll K B ds vs H) : ∀ n : Nat, imAll K B (List.replicate n ds).flatten (List.replicate n vs).flatten H
  | 0 => rfl
  | n + 1 => by
    rw [List.replicate_succ, List.replicate_succ, List.flatten_cons, List.flatten_cons]
    exact imAll_append h (imAll_rep h n)
theorem et_test {b : Bool} (h : Ev R B te δ H (im K B (.bool b))) : EvT R B (tTest te) δ H b := fun σ H1 r S Q k => h σ H1 r S _ fun v H2 r2 e => ⟨b, e, k H2 r2⟩
theorem et_B {b : Bool} (h : Ev R B te δ H (im K B (.bool b))) : EvT R B (tB te) δ H b := fun σ H1 r S Q k => h σ H1 r S _ fun v H2 r2 e => ⟨b, e, k H2 r2⟩
theorem et_not {b : Bool} (h : EvT R B tt δ H b) : EvT R B (tNot tt) δ H (!b) := fun σ H1 r S Q k => h σ H1 r S _ fun H2 r2 => k H2 r2
theorem et_and {a b : Bool} (h1 : EvT R B tt δ H a) (h2 : a = true → EvT R B tu δ H b) : EvT R B (tAnd tt tu) δ H (a && b) := fun σ H1 r S Q k => h1 σ H1 r S _ fun H2 r2 => by
  cases a with
  | true => exact h2 rfl σ H2 (rk.tr r r2) (S.mono (rk.rb r2)) Q fun H3 r3 => k H3 (rk.tr r2 r3)
  | false => exact k H2 r2
theorem et_or {a b : Bool} (h1 : EvT R B tt δ H a) (h2 : a = false → EvT R B tu δ H b) : EvT R B (tOr tt tu) δ H (a || b) := fun σ H1 r S Q k => h1 σ H1 r S _ fun H2 r2 => by
  cases a with
  | true => exact k H2 r2
  | false => exact h2 rfl σ H2 (rk.tr r r2) (S.mono (rk.rb r2)) Q fun H3 r3 => k H3 (rk.tr r2 r3)
theorem EvT.is {a b : Bool} (h : EvT R B tt δ H a) (e : a = b) : EvT R B tt δ H b := e ▸ h
theorem ev_and {a b : Bool} (h1 : Ev R B ta δ H (im K B (.bool a))) (h2 : a = true → Ev R B tb δ H (im K B (.bool b))) : Ev R B (tAndV ta tb) δ H (im K B (.bool (a && b))) := fun σ H1 r S Q k => h1 σ H1 r S _ fun v H2 r2 e => ⟨a, e, by
  cases a with
  | true => exact h2 rfl σ H2 (rk.tr r r2) (S.mono (rk.rb r2)) Q fun v H3 r3 e => k v H3 (rk.tr r2 r3) e
  | false => exact k _ H2 r2 rfl⟩
theorem ev_not {a : Bool} (h1 : Ev R B ta δ H (im K B (.bool a))) : Ev R B (tNotV ta) δ H (im K B (.bool (!a))) := fun σ H1 r S Q k => h1 σ H1 r S _ fun v H2 r2 e => ⟨a, e, k _ H2 r2 rfl⟩
theorem ev_if {b : Bool} (h : EvT R B tt δ H b) (h1 : b = true → Ev R B ta δ H p) (h2 : b = false → Ev R B tb δ H p) : Ev R B (tIf tt ta tb) δ H p := fun σ H1 r S Q k => h σ H1 r S _ fun H2 r2 => by
  cases b with
  | true => exact h1 rfl σ H2 (rk.tr r r2) (S.mono (rk.rb r2)) Q fun v H3 r3 pv => k v H3 (rk.tr r2 r3) pv
  | false => exact h2 rfl σ H2 (rk.tr r r2) (S.mono (rk.rb r2)) Q fun v H3 r3 pv => k v H3 (rk.tr r2 r3) pv
end
section
variable {R : Hp → Hp → Prop} {B : Bn} [rk : Rok B R] {K : PySem.W.Frag} {δ : List (Option PV)} {H H' : Hp} {ta tb tc te : TE} {p q w : PV} {tt tu : TT} {D : Ends} {σ : L2.St} {t u : TS} {i j l : Nat}
end
def pureSp {α : Type} (K : PySem.W.Frag) (args : α → List PyData) (pre : α → Prop) (res : α → PyData) : Sp := fun vs H Q _ =>
  ∃ (B : Bn) (a : α), BOk B H ∧ imAll K B (args a) vs H ∧ pre a ∧ ∀ v H', Ex H H' → im K B (res a) v H' → Q v H'
theorem pureSp.len {α : Type} {K : PySem.W.Frag} {args : α → List PyData} {pre : α → Prop} {res : α → PyData} {n : Nat} (h : ∀ a, (args a).length = n) {vs : List V} {H : Hp} {Q : VK} {E : XK} (q : pureSp K args pre res vs H Q E) : vs.length = n := by
  obtain ⟨B, a, _, h1, _⟩ := q
  rw [imAll_len h1]; exact h a
theorem SD.start {K : PySem.W.Frag} {B : Bn} {H : Hp} {N : List Str} {ds : List PyData} {vs : List V} (o : BOk B H) (h : imAll K B ds vs H) :
    SD B H (start N vs) (ds.map (fun d => some (im K B d)) ++ List.replicate (N.length - ds.length) none) := by
  have hl := imAll_len h
  refine ⟨o, ?_, fun i p e => ?_⟩
  · unfold L2.start
    rw [List.length_append, List.length_append, List.length_map, List.length_map, List.length_replicate, List.length_replicate, hl]
  · by_cases hi : i < ds.length
    · rw [List.getElem?_append_left (by rw [List.length_map]; exact hi), List.getElem?_map, List.getElem?_eq_getElem hi] at e
      have e2 : im K B ds[i] = p := by simpa using e
      obtain ⟨v, h1, h2⟩ := imAll_get h (List.getElem?_eq_getElem hi)
      subst e2
      refine ⟨inferInstance, v, ?_, h2⟩
      unfold L2.start
      rw [List.getElem?_append_left (by rw [List.length_map, hl]; exact hi), List.getElem?_map, h1]
      rfl
    · rw [List.getElem?_append_right (by rw [List.length_map]; omega), List.getElem?_replicate] at e
      split at e <;> simp at e
section
variable {R : Hp → Hp → Prop} {B : Bn} [rk : Rok B R] {K : PySem.W.Frag} {δ : List (Option PV)} {H H' : Hp}
theorem ev_call {α : Type} {args : α → List PyData} {pre : α → Prop} {res : α → PyData} {E : XK} {ta : TA} (a : α) (h : EvA R B ta δ H ((args a).map (im K B))) (hp : pre a) :
    Ev R B (tCall (pureSp K args pre res) [] E ta) δ H (im K B (res a)) := fun σ H1 r S Q k =>
  h σ H1 r S _ fun vs H2 r2 pr => by
    show pureSp K args pre res (vs ++ []) H2 Q E
    rw [List.append_nil]
    exact ⟨B, a, S.ok.mono (rk.rb r2), imAll_of_pAll pr, hp, fun v H3 e3 hv => k v H3 (rk.tr r2 (rk.ex e3)) hv⟩
end
abbrev tI (ns : List Int) : PyData := .tuple (ns.map .int)
abbrev wd (b r : List Int) : PyData := .tuple [tI b, tI r]
def letterAt (b r : List Int) (k : Int) : Int := if k < b.length then b.getD k.toNat 0 else r.getD ((k - b.length) % r.length).toNat 0
mutual
def plain : PyData → Bool
  | .none => true
  | .bool _ => true
  | .int _ => true
  | .str _ => true
  | .tuple ds => plainAll ds
  | .list _ => false
  | .dict _ => false
def plainAll : List PyData → Bool
  | [] => true
  | d :: ds => plain d && plainAll ds
end
structure TK (H H' : Hp) : Prop where
  tup : ∀ a xs, H a = some (.tup xs) → H' a = some (.tup xs)
  frz : ∀ a o u, H a = some (.frz o u) → H' a = some (.frz o u)
theorem RB.tk {B : Bn} {H H' : Hp} (r : RB B H H') : TK H H' := ⟨r.tup, r.frz⟩
theorem TK.sqT {K : PySem.W.Frag} {H H' : Hp} {a : Addr} {xs : List V} (r : TK H H') (h : SqT K H a xs) : SqT K H' a xs := by
  rcases h with (h | ⟨o, h⟩) | h
  · exact .inl (.inl (r.tup _ _ h))
  · exact .inl (.inr ⟨o, r.frz _ _ _ h⟩)
  · exact .inr h
theorem TK.upd {H : Hp} {a : Addr} {xs : List V} {o : HO} (h : H a = some (.lst xs)) : TK H (upd H a o) :=
  ⟨fun b ys e => by rw [upd_ne (ne_of e h (by intro z; cases z))]; exact e, fun b ob u e => by rw [upd_ne (ne_of e h (by intro z; cases z))]; exact e⟩
section
variable {K : PySem.W.Frag} {B B' : Bn} {H H' : Hp}
end
class Rmk (R : Hp → Hp → Prop) : Prop where
  new : ∀ {H H' p o}, R H H' → H p = none → R H (upd H' p o)
instance : Rmk Ex := ⟨fun r h => r.mut h⟩
instance {B : Bn} : Rmk (RB B) := ⟨fun {H H' p o} r h => ⟨fun a u n e => by rw [upd_ne (ne_of_none e h)]; exact r.keep a u n e, fun a u e => by rw [upd_ne (ne_of_none e h)]; exact r.tup a u e,
  fun a ob u e => by rw [upd_ne (ne_of_none e h)]; exact r.frz a ob u e, fun a b n => by
    by_cases q : a = p
    · subst q; exact absurd h n
    · rw [upd_ne q]; exact r.ban a b n⟩⟩
def cut {α : Type} (xs : List α) (lo hi : Option Int) : List α := (xs.drop (HT.sIx xs.length 0 lo)).take (HT.sIx xs.length xs.length hi - HT.sIx xs.length 0 lo)
theorem cutV_im {K : PySem.W.Frag} {B : Bn} {H : Hp} {ds : List PyData} {vs : List V} {lo hi : Option Int} (h : imAll K B ds vs H) : imAll K B (cut ds lo hi) (cutV vs lo hi) H := by
  unfold cut cutV
  rw [imAll_len h]
  exact imAll_take _ (imAll_drop _ h)
section
variable {R : Hp → Hp → Prop} {B : Bn} [rk : Rok B R] {K : PySem.W.Frag} {δ : List (Option PV)} {H : Hp} {te : TE} {tl th : TO} {lo hi : Option Int}
theorem eo_none : EvO R B tNoPart δ H none := fun σ H1 r S Q k => k H1 (rk.rf H1)
theorem eo_some {i : Int} (h : Ev R B te δ H (im K B (.int i))) : EvO R B (tPart te) δ H (some i) := fun σ H1 r S Q k => h σ H1 r S _ fun v H2 r2 e => ⟨i, e, k H2 r2⟩
end
theorem cut_from {α : Type} {xs : List α} {n : Nat} : cut xs (some (n : Int)) none = xs.drop n := by
  unfold cut
  rw [HT.sIx_none, HT.sIx_nat]
  rcases Nat.le_total n xs.length with h | h
  · rw [Nat.min_eq_left h, List.take_of_length_le (by rw [List.length_drop]; omega)]
  · rw [Nat.min_eq_right h, Nat.sub_self, List.take_zero, List.drop_of_length_le h]
section
variable (R : Hp → Hp → Prop) (B : Bn)
def Src (wi : TI) (δ : List (Option PV)) (H : Hp) (n : Nat) (Y : Nat → PV) : Prop := ∀ σ H1, R H H1 → SD B H1 σ δ → ∀ Q : It → Hp → Prop,
  (∀ (J : It) (G : Hp → Prop) (H2 : Hp), R H1 H2 → Walk J n G (fun i Ha x Hb => Ex Ha Hb ∧ Y i x Hb) → (∀ H3, RB B H2 H3 → G H3) → Q J H2) → wi σ H1 Q
end
section
variable {R : Hp → Hp → Prop} {B : Bn} [rk : Rok B R] {K : PySem.W.Frag} {δ : List (Option PV)} {H : Hp} {ta tb : TE}
theorem getD_im {ds : List PyData} {vs : List V} {i : Nat} {v : V} (h : imAll K B ds vs H) (e : vs[i]? = some v) : im K B (ds.getD i .none) v H := by
  obtain ⟨d, e1, e2⟩ := imAll_getV h e
  rw [List.getD_eq_getElem?_getD, e1]
  exact e2
theorem src_range1 {n : Int} (h : Ev R B ta δ H (im K B (.int n))) (h1 : -(2 ^ 62) ≤ n) (h2 : n < 2 ^ 62) : Src R B (iRng1 (tCons ta tNil)) δ H n.toNat (fun i => im K B (.int i)) := fun σ H1 r S Q k =>
  h σ H1 r S _ fun v H2 r2 e => ⟨n, by rw [show v = _ from e], h1, h2, k _ (fun _ => True) H2 r2 (walk_range.mono (fun _ z => z) fun i Ha x Hb _ _ y => ⟨by rw [y.1]; exact Ex.refl _, by rw [y.2]; show V.int (0 + (i : Int)) = V.int _; rw [Int.zero_add]⟩) fun _ _ => trivial⟩
end
section
variable {R : Hp → Hp → Prop} {B : Bn} [rk : Rok B R] [rm : Rmk R] {K : PySem.W.Frag} {δ : List (Option PV)} {H : Hp}
def newL (K : PySem.W.Frag) (B : Bn) (H : Hp) (ds : List PyData) : PV := fun v Hc => ∃ a vs, v = .ref a ∧ H a = none ∧ ¬ B a ∧ Hc a = some (.lst vs) ∧ imAll K B ds vs Hc
instance {H : Hp} {ds : List PyData} : Stb B (newL K B H ds) := ⟨fun r ⟨a, vs, e, n, nb, h, q⟩ => ⟨a, vs, e, n, nb, r.keep _ _ nb h, imAll_st r _ _ q⟩⟩
theorem newL.im {H0 Hc : Hp} {ds : List PyData} {v : V} (h : newL K B H0 ds v Hc) : im K B (.list ds) v Hc := by
  obtain ⟨a, vs, e, n, nb, h, q⟩ := h
  exact ⟨a, vs, e, nb, sqL_of h, q⟩
theorem RB.fresh {H H' : Hp} {a : Addr} (r : RB B H H') (n : H' a = none) : H a = none := by
  cases e : H a with
  | none => rfl
  | some o =>
    rcases Classical.em (B a) with b | b
    · exact absurd n (r.ban a b (by rw [e]; exact fun z => nomatch z))
    · rw [r.keep a o b e] at n; cases n
end
abbrev big61 : Int := 2305843009213693951
structure HandOk (h l : Addr) (H : Hp) : Prop where
  ne : h ≠ l
  top : ∃ seed : Int, H h = some (.lst [.ref l, .int seed]) ∧ 0 ≤ seed ∧ seed < big61
  cells : ∃ cs : List Int, H l = some (.lst (cs.map .int)) ∧ (∀ c ∈ cs, 0 ≤ c) ∧ cs.length ≤ 63
def hB (h l : Addr) : Bn := fun a => a = h ∨ a = l
structure Rh (h l : Addr) (H H' : Hp) : Prop where
  rb : RB (hB h l) H H'
  ok : HandOk h l H → HandOk h l H'
class Has (B : Bn) (h l : Addr) : Prop where
  h1 : B h
  h2 : B l
instance {h l : Addr} : Has (hB h l) h l := ⟨.inl rfl, .inr rfl⟩
theorem HandOk.ex {h l : Addr} {H H' : Hp} (e : Ex H H') (o : HandOk h l H) : HandOk h l H' := by
  obtain ⟨n, ⟨s, e1, b1⟩, ⟨cs, e2, b2⟩⟩ := o
  exact ⟨n, ⟨s, e _ _ e1, b1⟩, ⟨cs, e _ _ e2, b2⟩⟩
instance {B : Bn} {h l : Addr} [hs : Has B h l] : Rok B (Rh h l) where
  rf := fun H => ⟨RB.refl H, id⟩
  tr := fun a b => ⟨a.rb.trans b.rb, fun o => b.ok (a.ok o)⟩
  ex := fun e => ⟨RB.of_ex e, fun o => o.ex e⟩
  rb := fun r => r.rb.sub fun a z => by
    rcases z with rfl | rfl
    · exact hs.h1
    · exact hs.h2
theorem HandOk.upd {h l p : Addr} {H : Hp} {o : HO} (k : HandOk h l H) (n1 : h ≠ p) (n2 : l ≠ p) : HandOk h l (upd H p o) := by
  obtain ⟨n, ⟨s, e1, b1⟩, ⟨cs, e2, b2⟩⟩ := k
  exact ⟨n, ⟨s, by rw [upd_ne n1]; exact e1, b1⟩, ⟨cs, by rw [upd_ne n2]; exact e2, b2⟩⟩
theorem HandOk.at1 {h l : Addr} {H : Hp} (k : HandOk h l H) : H h ≠ none := by
  obtain ⟨n, ⟨s, e1, b1⟩, _⟩ := k
  rw [e1]; exact fun z => nomatch z
theorem HandOk.at2 {h l : Addr} {H : Hp} (k : HandOk h l H) : H l ≠ none := by
  obtain ⟨n, _, ⟨cs, e2, b2⟩⟩ := k
  rw [e2]; exact fun z => nomatch z
instance {h l : Addr} : Rmk (Rh h l) := ⟨fun {H H' p o} r n => ⟨Rmk.new r.rb n, fun k => (r.ok k).upd (fun e => k.at1 (e ▸ n)) fun e => k.at2 (e ▸ n)⟩⟩
def intP (C : Int → Prop) : PV := fun v _ => ∃ i, C i ∧ v = .int i
instance {B : Bn} {C : Int → Prop} : Stb B (intP C) := ⟨fun _ h => h⟩
section
variable {B : Bn} {h l : Addr} [hs : Has B h l] {K : PySem.W.Frag} {δ : List (Option PV)} {H : Hp} {ta tb : TE} {E : XK}
end
section
variable {R : Hp → Hp → Prop} {B : Bn} [rk : Rok B R] {K : PySem.W.Frag} {δ : List (Option PV)} {H : Hp} {ta tb : TE} {C D : Int → Prop}
end
section
variable {R : Hp → Hp → Prop} {B : Bn} [rk : Rok B R] {K : PySem.W.Frag} {δ : List (Option PV)} {H : Hp} {ta tb to ti te : TE} {D : Ends} {σ : L2.St} {p : PV}
theorem Ev.lst {a : Addr} {vs : List V} {ds : List PyData} (ha : Ev Ex (fun _ => False) ta δ H (isP (.ref a))) (hl : H a = some (.lst vs)) (hv : imAll K (fun _ => False) ds vs H) : Ev Ex (fun _ => False) ta δ H (im K (fun _ => False) (.list ds)) :=
  ha.conv fun v H1 r1 e => ⟨a, vs, e, fun z => z, sqL_of (r1 _ _ hl), imAll_st (RB.of_ex r1) _ _ hv⟩
end
section
variable {B : Bn} {K : PySem.W.Frag} {δ : List (Option PV)} {H : Hp} {ta : TE}
end
theorem canLayAll_ints : ∀ ns : List Int, PyData.canLayAll0 (ns.map .int) = true
  | [] => by rfl
  | n :: ns => by
    have := canLayAll_ints ns
    simp only [List.map_cons, PyData.canLayAll0, PyData.canLay0, this, Bool.and_self]
theorem depthAll_ints : ∀ ns : List Int, PyData.depthAll (ns.map .int) ≤ 1
  | [] => by simp [PyData.depthAll]
  | n :: ns => by
    have := depthAll_ints ns
    simp only [List.map_cons, PyData.depthAll, PyData.depth]
    omega
theorem shaped_ints (ns : List Int) : SeqAt.shaped (.list (ns.map .int)) = true := by
  unfold SeqAt.shaped
  have h1 := canLayAll_ints ns
  have h2 := depthAll_ints ns
  simp only [PyData.canLay0, h1, PyData.depth, Bool.true_and]
  exact decide_eq_true (by omega)
structure FnG (P : Program) (w : World) (K : PySem.W.Frag) (mg : Str → Option Value) (bs : Heap) (CX : CXT) (k : Nat) (f : Addr) (fd : FuncData) (ps : List Str) (sp : Sp) : Prop where
  len : ∀ vs H Q E, sp vs H Q E → vs.length = ps.length
  run : ∀ (A : Around) (o : List Env) (s : Shared) (H : Hp) (ar : Args) (us : List Value) (vs : List V) (Q : VK) (E : XK),
    A.guards = some [] → Room k A → Env0 P w K mg bs A o s H → BindsTo s fd ar (ps.zip us) → Vals vs us → sp vs H Q E →
    codeAny (model P w) A (.call (.ref f) ar) (CR CX o P w H s Q E) s
theorem FnG.of {P : Program} {w : World} {K : PySem.W.Frag} {mg : Str → Option Value} {bs : Heap} {CX : CXT} {k : Nat} {f : Addr} {fd : FuncData} {ps : List Str} {sp : Sp}
    (F : FnOk P w K mg bs CX k f fd ps sp) : FnG P w K mg bs CX k f fd ps sp := ⟨F.len, fun A o s H ar us vs Q E _ => F.run A o s H ar us vs Q E⟩
section
variable {P : Program} {w : World} {K : PySem.W.Frag} {mg : Str → Option Value} {bs : Heap} {CX : CXT} {x qu : Str} {pa : Arguments} {bo : List Stmt} {sc : Scope} {dv : List V} {kw : List (Str × V)} {f : Addr} {fd : FuncData}
theorem okG {N ps : List Str} {k : Nat} {sp : Sp} (F : FunD K x qu pa bo sc dv kw f fd) (S : FnScope N ps sc)
    (hlen : ∀ vs H Q E, sp vs H Q E → vs.length = ps.length)
    (hb : ∀ (cv : Value) (A : Around) (o : List Env) (s : Shared) (H : Hp) (vs : List V) (Q : VK) (E : XK), A.guards = some [] →
      Room k (A.deeper (envOfC qu sc s.heap.objs.size f cv)) → sp vs H Q E →
      ∃ t, PSs (cxOf CX P w K mg bs N qu sc f cv A o s H E) bo t ∧ t ⟨fun _ H' => Q .non H', Q, fun _ _ => False, fun _ _ => False⟩ (start N vs) H) :
    FnG P w K mg bs CX (k + 1) f fd ps sp := by
  obtain ⟨oc, od, dV, kV, doc, pm, an, cv, ct, osl, rfl, hlk, hcd, _, _⟩ := F.ex
  refine ⟨hlen, fun A o s H ar us vs Q E gd rm en bd rv hsp => ?_⟩
  have hKin : K.In s.heap := en.mod.kin.keeps fun c z q => (en.bs c z q).1
  have hLim : s.heap.NoLimit := en.mod.nolimit.keeps fun c z q => (en.bs c z q).1
  have hkd : ∀ y ∈ ps.zip us, sc.names.lookup y.1 = some .local ∨
      (sc.names.lookup y.1 = some .cell ∧ ((cellsFrom (s.heap.objs.size + 1) sc.names []).lookup y.1).isSome = true) := by
    rintro ⟨nm, vl⟩ hy
    rcases S.par nm (List.of_mem_zip hy).1 with z | z
    · left; exact z
    · right; exact ⟨z, PySem.W.cellsFrom_some _ _ _ (.inl z)⟩
  refine codeAny_call_function rm.depth (hKin _ _ hlk) rfl S.co S.gen rfl (PySem.W.codeRec_of hKin hcd) (bd _ _ _ _ ?_)
  refine wpAny_newFunctionEnv_cells S.kind hkd fun ev hev s2 xx => ?_
  subst hev
  refine ⟨hLim.keeps xx.toInCall.keep, codeAny_func ?_⟩
  obtain ⟨t, ht, hq⟩ := hb cv A o s H vs Q E gd (rm.deeper _) hsp
  have II : Inv (cxOf CX P w K mg bs N qu sc f cv A o s H E) [] (start N vs) H s2 := inv_start S rm.hd en (hlen _ _ _ _ hsp) rv xx
  refine wpAny_mono (ht.run [] s2 (start N vs) H _ II hq) (fun fl s3 hs => ?_) fun e s3 hs => hs
  cases fl with
  | ret u => obtain ⟨v, σ', H', J, r2, z⟩ := hs; exact ⟨v, H', J.os, J.bare, J.base, J.hok, r2, z⟩
  | next => obtain ⟨σ', H', J, z⟩ := hs; exact ⟨.non, H', J.os, J.bare, J.base, J.hok, rfl, z⟩
  | brk => obtain ⟨_, _, _, z⟩ := hs; cases z
  | cont => obtain ⟨_, _, _, z⟩ := hs; cases z
end
section
variable {X : Cx} {CX : CXT} {k : Nat} {f : Addr} {fd : FuncData} {ps : List Str} {sp : Sp} {E : XK} {x : Str} {p pos : Pos} {e : Expr} {es : List Expr} {t : TA}
theorem pe_callG (F : FnG X.prog X.w X.K X.mg X.base CX k f fd ps sp) (gd : X.A.guards = some []) (rm : Room k X.A) (hg : Gl X x) (hm : X.mg x = some (.ref f)) (hk : PySem.W.keepIn X.K (.ref f) = true)
    (bd : Binds X.K fd ps []) (hx : Passes CX X E) (ha : PA X (e :: es) t) (d1 : (x == ("__debug__" : Str)) = false := by decide)
    (d2 : starEach (e :: es) X.env = (false, eval e X.env) :: starEach es X.env := by rfl) (d3 : (backTo pos (starEach es X.env)).any (·.1) = false := by rfl) :
    PE X (.Call (.Name x p) (e :: es) [] pos) (tCall sp [] E t) := by
  refine ⟨fun pins s σ H Q I h => wpAny_Call_Name_kw (ld_glob I hg hm ?_ d1)⟩
  refine PySem.W.callWith_K (h₀ := X.base) I.ok.mod.kin hk (thn (ha.run pos pins s σ H _ I h) ?_) d2 d3
  rintro us s1 ⟨vs, H1, I1, rv, q⟩
  refine ⟨I1.kIn, ?_⟩
  have q : sp (vs ++ []) H1 Q E := q
  rw [List.append_nil] at q
  have hl : (us ++ []).length = ps.length := by rw [List.append_nil, ← rv.length]; exact F.len _ _ _ _ q
  have bb := bd s1 us I1.kIn hl
  rw [List.append_nil] at bb
  refine wpAny_call (codeAny_mono (F.run X.A X.stack s1 H1 ⟨us, []⟩ us vs Q E gd rm I1.env0 bb rv q) fun r s2 hq => ?_)
  match r, hq with
  | .error er, hq => exact hx pins σ H1 s1 er s2 I1 hq
  | .ok (.ret u), hq => exact I1.after hq
def rReprD (K : PySem.W.Frag) : List V → Hp → VK → Prop := fun xs H Q => ∃ v d, xs = [v] ∧ Dp K H v d ∧ d.showable = true ∧ d.hasDict = false ∧ d.depth ≤ 64 ∧ d.shown.length ≤ sizeLine ∧ Q (.str d.shown) H
theorem call_reprD (gd : X.A.guards = some []) (hu : X.A.units + 66 < cLine) : CallR X (.builtin "repr") (rReprD X.K) := by
  intro pins s σ H xs us Q I r h
  obtain ⟨v, d, rfl, hd, sh, nd, dp, sz, q⟩ := h
  obtain ⟨u, rfl, ru⟩ := vals1 r
  obtain ⟨as, rd⟩ := Dp.reads I d v u hd ru
  have fin : ∀ (h' : Heap) (t : Tok) (tk : Nat), (∀ b o, s.heap.get? b = some o → h'.get? b = some o) → EP X pins σ Q (.str d.shown t) { s with heap := h', toks := tk } := fun h' t tk hk => ⟨.str d.shown, H, I.kept hk, ⟨t, rfl⟩, q⟩
  cases hd with
  | lst a b => cases ru; exact repr_of_reads' rd sh (PyData.noDict_hsm nd) gd (by omega) (fun _ _ z => z) fin sz
  | tup a b => cases ru; exact repr_of_reads' rd sh (PyData.noDict_hsm nd) gd (by omega) (fun _ _ z => z) fin sz
  | non => cases ru; rw [PyData.shown_none] at fin; exact PySem.P.repr_of_none (fin s.heap _ _ fun _ _ z => z)
  | bl b => cases ru; rw [PyData.shown_bool] at fin; exact PySem.P.repr_of_bool (by cases b <;> exact fin s.heap _ _ fun _ _ z => z)
  | int i => obtain ⟨t, rfl⟩ := ru; rw [PyData.shown_int] at fin; exact PySem.P.repr_of_int (by simpa [PyData.showable] using sh) (fin s.heap _ _ fun _ _ z => z)
  | str z => obtain ⟨t, rfl⟩ := ru; rw [PyData.shown_str] at fin sz; exact PySem.P.repr_of_str (fin s.heap _ _ fun _ _ z => z) sz
end
section
variable {P : Program} {w : World} {K : PySem.W.Frag} {mg mb : Str → Option Value} {k : Nat} {fa a : Addr} {fd : FuncData} {x : Str} {sp : Sp} {s1 : Shared} {vs : List Value} {ns : List Int}
theorem callG_core (hr : Room k callerA) (F : ∀ bs : Heap, K.In bs → bs.Ns mainGlobals mg → FnG P w K mg bs CX0 k fa fd [x] sp) (hbd : ∀ (s : Shared) (u : Value), BindsTo s fd ⟨[u], []⟩ [(x, u)])
    (KX : K.In s1.heap) (n1 : s1.heap.Ns mainGlobals mg) (n2 : s1.heap.Ns builtinsNs mb) (n3 : ∀ x : Str, x ≠ "__name__" → mb x = bootBuiltins x) (n4 : s1.heap.NoLimit) (n5 : s1.gens = #[])
    (ha : s1.heap.get? a = some { cls := .type "list", data := .seq vs.toArray }) (H : Hp) (hO : Only H) (hok : HOk P w H s1.heap) (hA : ∀ b, H b ≠ none → b = a) (hK : H a ≠ none → K.lookup a = none)
    (hsp : sp [.ref a] H (fun v _ => v = .bl true) fun _ _ _ => False) :
    codeAny (model P w) callerA (.call (.ref fa) ⟨[.ref a], []⟩) (fun r s' => r = .ok (.ret (.bool true)) ∧ OldK s1.heap s'.heap ∧ s'.os = s1.os ∧ AllBare s'.gens) s1 := by
  have noD : ∀ (b : Addr) (o : Obj) (es : Array DictEntry) (ep : Nat), s1.heap.get? b = some o → o.data = .dict es ep → H b = none := by
    intro b o es ep e d
    by_cases z : H b = none
    · exact z
    · rw [hA b z, ha] at e
      cases e
      exact nomatch (show Data.seq vs.toArray _ = Data.dict es ep from d)
  have nsB : ∀ (b : Addr) (m : Str → Option Value), s1.heap.Ns b m → (hidT s1.heap H).Ns b m := by
    rintro b m ⟨o, es, ep, e, d, rest⟩
    exact ⟨o, es, ep, hidT_get e (noD b o es ep e d), d, rest⟩
  have inB : K.In (hidT s1.heap H) := by
    intro b o e
    refine hidT_get (KX b o e) ?_
    by_cases z : H b = none
    · exact z
    · have eb := hA b z
      rw [eb] at z e
      rw [hK z] at e
      cases e
  obtain ⟨mc, l1, l2⟩ := n4
  have md : Mod K mg (hidT s1.heap H) := ⟨inB, nsB _ _ n1, ⟨mb, nsB _ _ n2, n3⟩, ⟨mc, nsB _ _ l1, l2⟩⟩
  have en : Env0 P w K mg (hidT s1.heap H) callerA [] s1 H :=
    ⟨rfl, md, fun b o e => of_hidT e, Nat.le_of_eq (hidT_size _ _), trivial, fun b z => (nomatch (show b ∈ ([] : List Addr) from z)), hok, AllBare.of_eq n5⟩
  refine codeAny_mono ((F _ inB (nsB _ _ n1)).run callerA [] s1 H ⟨[.ref a], []⟩ [.ref a] [.ref a] _ _ rfl hr en (hbd s1 (.ref a)) (.cons rfl .nil) hsp) fun r s' h => ?_
  match r, h with
  | .error e, h => exact h.elim
  | .ok (.ret u), h =>
    obtain ⟨v, H', os, bare, un, hok2, r2, q⟩ := h
    cases (show v = .bl true from q)
    cases (show u = Value.bool true from r2)
    refine ⟨rfl, OldK.of_keep fun b o e => ?_, os, bare⟩
    rcases hO b with z | ⟨ob, xs, z⟩
    · exact un.keep b o e z (fun q => nomatch (show b ∈ ([] : List Addr) from q)) (fun q => nomatch q)
    · obtain ⟨e1, _⟩ := hok b _ z
      obtain ⟨e2, _⟩ := hok2 b _ (un.frzs b ob _ z)
      rw [e] at e1; cases e1
      exact e2
theorem callG (hr : Room k callerA) (F : ∀ bs : Heap, K.In bs → bs.Ns mainGlobals mg → FnG P w K mg bs CX0 k fa fd [x] sp) (hbd : ∀ (s : Shared) (u : Value), BindsTo s fd ⟨[u], []⟩ [(x, u)])
    (KX : K.In s1.heap) (n1 : s1.heap.Ns mainGlobals mg) (n2 : s1.heap.Ns builtinsNs mb) (n3 : ∀ x : Str, x ≠ "__name__" → mb x = bootBuiltins x) (n4 : s1.heap.NoLimit) (n5 : s1.gens = #[])
    (ha : s1.heap.get? a = some { cls := .type "list", data := .seq vs.toArray }) (hi : IntsAre vs ns) (hl : ns.length ≤ sizeLine)
    (hsp : ∀ H : Hp, Only H → SqL K H a (ns.map V.int) → sp [.ref a] H (fun v _ => v = .bl true) fun _ _ _ => False) :
    codeAny (model P w) callerA (.call (.ref fa) ⟨[.ref a], []⟩) (fun r s' => r = .ok (.ret (.bool true)) ∧ OldK s1.heap s'.heap ∧ s'.os = s1.os ∧ AllBare s'.gens) s1 := by
  have rv := vals_ints hi
  have lv := hi.length
  by_cases hk : K.lookup a = none
  · let H : Hp := fun b => if b = a then some (.frz { cls := .type "list", data := .seq vs.toArray } (.lst (ns.map V.int))) else none
    have at1 : H a = some (.frz { cls := .type "list", data := .seq vs.toArray } (.lst (ns.map V.int))) := if_pos rfl
    have at2 : ∀ b, b ≠ a → H b = none := fun b n => if_neg n
    have only : Only H := fun b => by
      by_cases hb : b = a
      · rw [hb]; exact .inr ⟨_, _, at1⟩
      · exact .inl (at2 b hb)
    refine callG_core hr F hbd KX n1 n2 n3 n4 n5 ha H only (fun b u z => ?_) (fun b z => ?_) (fun _ => hk) (hsp H only (.inl (.inr ⟨_, at1⟩)))
    · by_cases hb : b = a
      · rw [hb, at1] at z
        cases z
        rw [hb]
        exact ⟨ha, by rw [List.length_map]; exact hl, vs, _, rv, ha⟩
      · rw [at2 b hb] at z; cases z
    · by_cases hb : b = a
      · exact hb
      · exact absurd (at2 b hb) z
  · obtain ⟨o, ho⟩ := Option.ne_none_iff_exists'.mp hk
    have e := KX a o ho
    rw [ha] at e
    cases e
    have only : Only (fun _ => none) := fun _ => .inl rfl
    exact callG_core hr F hbd KX n1 n2 n3 n4 n5 ha (fun _ => none) only (fun b u z => nomatch (show (none : Option HO) = some u from z)) (fun b z => absurd rfl z) (fun z => absurd rfl z)
      (hsp _ only (.inr ⟨_, vs.toArray, _, ho, rfl, rfl, rfl, by rw [List.size_toArray, lv]; exact hl, by simpa using rv⟩))
end
theorem walkG {l : PySem.W.OpenLaw} {n k : Nat} {q : Program} {ls : List Str} {XP : (Str → Option Value) → Heap → Prop} {YP : World → Heap → Prop} {d : DefRec} {x : Str}
    (hn : l.most = some n) (hn2 : n ≤ sizeLine) (hdf : d.params.defaults = []) (hr : Room k callerA)
    (F : ∀ (w : World) (mg : Str → Option Value) (fa : Addr) (h : Heap), YP w h → h.Ns mainGlobals mg → mg d.name = some (.ref fa) →
      ∃ (K : PySem.W.Frag) (fd : FuncData) (sp : Sp), K.In h ∧ (∀ (s : Shared) (u : Value), BindsTo s fd ⟨[u], []⟩ [(x, u)]) ∧
        (∀ (H : Hp) (a : Addr) (ns : List Int), ns.length ≤ n → Only H → SqL K H a (ns.map V.int) → sp [.ref a] H (fun v _ => v = .bl true) fun _ _ _ => False) ∧
        ∀ bs : Heap, K.In bs → bs.Ns mainGlobals mg → FnG l.prog w K mg bs CX0 k fa fd [x] sp) :
    PySem.W.WalkO q ls XP YP l.row.toRowW d [] (fun f vs => PySem.call f vs) := by
  refine Att.attach_call hn hdf ?_
  intro w s0 s1 mg mb fa o pm cd doc a vs ns G Y ho hd hcd hmg hobj hints hlen hg
  obtain ⟨K, fd, sp, KX, hb, hsp, hF⟩ := F w mg fa _ Y G.T.g hmg
  exact callG hr hF hb KX G.T.g G.T.b G.T.builtins G.T.nolimit hg hobj hints (Nat.le_trans hlen hn2) (fun H hO hS => hsp H a ns hlen hO hS)
theorem rm66 {k : Nat} {A : Around} (r : Room k A) : A.units + 66 < cLine := by have := r.un; omega
def Cv (B' : Bn) (H : Hp) : List (Option PV) → List (Option PV) → Prop
  | [], [] => True
  | _ :: a, none :: b => Cv B' H a b
  | some p :: a, some q :: b => (∀ v, p v H → q v H) ∧ Stb B' q ∧ Cv B' H a b
  | _, _ => False
theorem Cv.len {B' : Bn} {H : Hp} : ∀ {a b : List (Option PV)}, Cv B' H a b → a.length = b.length
  | [], [], _ => rfl
  | _ :: a, none :: b, h => by rw [List.length_cons, List.length_cons, Cv.len (a := a) (b := b) (by cases ‹Option PV› <;> exact h)]
  | some _ :: a, some _ :: b, h => by rw [List.length_cons, List.length_cons, Cv.len (a := a) (b := b) h.2.2]
  | none :: _, some _ :: _, h => h.elim
  | [], _ :: _, h => h.elim
  | _ :: _, [], h => by cases ‹Option PV› <;> cases h
theorem Cv.get {B' : Bn} {H : Hp} : ∀ {a b : List (Option PV)} {i : Nat} {q : PV}, Cv B' H a b → b[i]? = some (some q) → Stb B' q ∧ ∃ p, a[i]? = some (some p) ∧ ∀ v, p v H → q v H
  | [], [], _, _, _, e => by simp at e
  | x :: a, none :: b, 0, q, _, e => by simp at e
  | x :: a, none :: b, i + 1, q, h, e => by
    have := Cv.get (a := a) (b := b) (i := i) (q := q) (by cases x <;> exact h) (by simpa using e)
    simpa using this
  | some x :: a, some y :: b, 0, q, h, e => by
    have e1 : y = q := by simpa using e
    subst e1
    exact ⟨h.2.1, x, rfl, h.1⟩
  | some x :: a, some y :: b, i + 1, q, h, e => by
    have := Cv.get (a := a) (b := b) (i := i) (q := q) h.2.2 (by simpa using e)
    simpa using this
  | none :: _, some _ :: _, _, _, h, _ => h.elim
  | [], _ :: _, _, _, h, _ => h.elim
  | _ :: _, [], _, _, h, _ => by cases ‹Option PV› <;> cases h
theorem SD.cv {B B' : Bn} {H : Hp} {σ : L2.St} {δ δ' : List (Option PV)} (s : SD B H σ δ) (o : BOk B' H) (c : Cv B' H δ δ') : SD B' H σ δ' := ⟨o, s.len.trans c.len, fun i q e => by
  obtain ⟨hq, p, e1, h⟩ := c.get e
  obtain ⟨v, e2, pv⟩ := s.get e1
  exact ⟨hq, v, e2, h v pv⟩⟩
abbrev own1 (p : Addr) : Bn := fun a => a = p
theorem own1.ok {p : Addr} {H : Hp} {o : HO} (h : H p = some o) : BOk (own1 p) H := fun a z => by rw [z, h]; exact fun q => nomatch q
theorem RB.own {p : Addr} {H0 H Hc : Hp} (e : Ex H0 H) (n : H0 p = none) (r : RB (own1 p) H Hc) : Ex H0 Hc := fun a o h => r.keep a o (fun z => by rw [show a = p from z, n] at h; cases h) (e a o h)
section
variable {B : Bn} {K : PySem.W.Frag} {δ : List (Option PV)} {H : Hp} {te : TE} {q : PV} {D : Ends} {σ : L2.St}
end
section
variable {R : Hp → Hp → Prop} {B : Bn} [rk : Rok B R] {K : PySem.W.Frag} {δ : List (Option PV)} {H : Hp} {ta tb te : TE} {C : Int → Prop}
end
def tyName : PyData → String
  | .none => "NoneType"
  | .bool _ => "bool"
  | .int _ => "int"
  | .str _ => "str"
  | .list _ => "list"
  | .tuple _ => "tuple"
  | .dict _ => "dict"
theorem im_ty {K : PySem.W.Frag} {B : Bn} {H : Hp} : ∀ {d : PyData} {v : V}, im K B d v H → TyX K H v (.type (tyName d))
  | .none, _, h => by cases (show _ = _ from h); exact .base .non
  | .bool _, _, h => by cases (show _ = _ from h); exact .base (.bl _)
  | .int _, _, h => by cases (show _ = _ from h); exact .base (.int _)
  | .str _, _, h => by cases (show _ = _ from h); exact .base (.str _)
  | .tuple ds, _, ⟨a, vs, e, s, _⟩ => by
    subst e
    rcases s with (s | ⟨o, s⟩) | ⟨o, its, n, h1, h2, _⟩
    · exact .base (.tup s)
    · exact .fTuple s
    · exact .kTuple h1 h2
  | .list ds, _, ⟨a, vs, e, _, s, _⟩ => by
    subst e
    rcases s with (s | ⟨o, s⟩) | ⟨o, its, n, h1, h2, _⟩
    · exact .base (.lst s)
    · exact .base (.frz s)
    · exact .kList h1 h2
  | .dict _, _, h => h.elim
theorem ev_isi {R : Hp → Hp → Prop} {B : Bn} [rk : Rok B R] {K : PySem.W.Frag} {δ : List (Option PV)} {H : Hp} {te : TE} {d : PyData} {T : String} {b : Bool} (he : Ev R B te δ H (im K B d)) (hb : kitB (tyName d) T = some b) :
    Ev R B (tCB (rIsi K) (tCons te (tCons (tC (.ty T)) tNil))) δ H (im K B (.bool b)) :=
  ev_cb (ea_cons he (ea_cons (ev_c (v := .ty T)) ea_nil)) fun vs H1 _ _ ⟨v, r, e, hv, v2, r2, e2, hv2, e3⟩ Q k => by
    subst e e2; cases (show r2 = [] from e3); cases (show v2 = _ from hv2)
    exact ⟨v, .ty T, _, _, b, rfl, .ty T, im_ty hv, kit_ty hb, k _ H1 (rk.rf H1) rfl⟩
section
variable {R : Hp → Hp → Prop} {B : Bn} [rk : Rok B R] {K : PySem.W.Frag} {δ : List (Option PV)} {H : Hp} {ta tb te : TE} {D : Ends} {σ : L2.St} {i j : Nat}
end
structure Shows (d : PyData) : Prop where
  s1 : d.showable = true
  s2 : d.hasDict = false
  s3 : d.depth ≤ 64
  s4 : d.shown.length ≤ sizeLine
abbrev sq (b r : List Int) : Nat → Int := fun n => letterAt b r (n : Int)
def Per (f : Nat → Int) (n p : Nat) : Prop := ∀ i, n ≤ i → f (i + p) = f i
structure Canon (f : Nat → Int) (a p : Nat) : Prop where
  pos : 1 ≤ p
  per : Per f a p
  minp : ∀ q n, 1 ≤ q → Per f n q → p ≤ q
  mina : ∀ n, Per f n p → a ≤ n
theorem least {P : Nat → Prop} (h : ∃ n, P n) : ∃ n, P n ∧ ∀ m, P m → n ≤ m := by
  obtain ⟨n, hn⟩ := h
  induction n using Nat.strongRecOn with
  | _ n ih =>
    rcases Classical.em (∃ m, m < n ∧ P m) with ⟨m, hm, pm⟩ | z
    · exact ih m hm pm
    · exact ⟨n, hn, fun m pm => Nat.le_of_not_lt fun q => z ⟨m, q, pm⟩⟩
theorem Canon.ex {f : Nat → Int} {n q : Nat} (hq : 1 ≤ q) (h : Per f n q) : ∃ a p, Canon f a p := by
  obtain ⟨p, ⟨p1, m, pm⟩, hp⟩ := least (P := fun p => 1 ≤ p ∧ ∃ m, Per f m p) ⟨q, hq, n, h⟩
  obtain ⟨a, pa, ha⟩ := least (P := fun a => Per f a p) ⟨m, pm⟩
  exact ⟨a, p, p1, pa, fun q n q1 pq => hp q ⟨q1, n, pq⟩, ha⟩
theorem Per.up {f : Nat → Int} {n m p : Nat} (h : Per f n p) (hm : n ≤ m) : Per f m p := fun i hi => h i (by omega)
structure Short (r r0 : List Int) : Prop where
  ne : r0 ≠ []
  le : r0.length ≤ r.length
  same : sq [] r0 = sq [] r
  minp : ∀ q n, 1 ≤ q → Per (sq [] r) n q → r0.length ≤ q
def relSp {α β : Type} (K : PySem.W.Frag) (args : α → List PyData) (pre : α → Prop) (C : α → β → Prop) (res : β → PyData) : Sp := fun vs H Q _ =>
  ∃ (B : Bn) (a : α), BOk B H ∧ imAll K B (args a) vs H ∧ pre a ∧ ∀ b v H', C a b → Ex H H' → im K B (res b) v H' → Q v H'
theorem relSp.len {α β : Type} {K : PySem.W.Frag} {args : α → List PyData} {pre : α → Prop} {C : α → β → Prop} {res : β → PyData} {n : Nat} (h : ∀ a, (args a).length = n) {vs : List V} {H : Hp} {Q : VK} {E : XK} (q : relSp K args pre C res vs H Q E) : vs.length = n := by
  obtain ⟨B, a, _, h1, _⟩ := q
  rw [imAll_len h1]; exact h a
def handSp {α β : Type} (K : PySem.W.Frag) (args : α → List PyData) (pre : α → Prop) (C : α → β → Prop) (res : β → PyData) : Sp := fun vs H Q _ =>
  ∃ (B : Bn) (h l : Addr) (a : α) (us : List V), Has B h l ∧ BOk B H ∧ HandOk h l H ∧ vs = .ref h :: us ∧ imAll K B (args a) us H ∧ pre a ∧ ∀ b v H', C a b → Rh h l H H' → im K B (res b) v H' → Q v H'
theorem handSp.len {α β : Type} {K : PySem.W.Frag} {args : α → List PyData} {pre : α → Prop} {C : α → β → Prop} {res : β → PyData} {n : Nat} (h : ∀ a, (args a).length = n) {vs : List V} {H : Hp} {Q : VK} {E : XK} (q : handSp K args pre C res vs H Q E) : vs.length = n + 1 := by
  obtain ⟨B, _, _, a, us, _, _, _, rfl, h1, _⟩ := q
  rw [List.length_cons, imAll_len h1, h a]
section
variable {R : Hp → Hp → Prop} {B : Bn} [rk : Rok B R] {K : PySem.W.Frag} {δ : List (Option PV)} {H H' : Hp}
end
section
variable {B : Bn} {h l : Addr} [hs : Has B h l] {K : PySem.W.Frag} {δ : List (Option PV)} {H : Hp} {t0 : TE} {E : XK}
end
section
variable {X : Cx} (K : PySem.W.Frag)
theorem op_addK (h : X.K = K := by rfl) : OpR X (binaryOp .Add) (rAddU K) := h ▸ op_addU
theorem op_mulK (h : X.K = K := by rfl) : OpR X (binaryOp .Mult) (rMulU K) := h ▸ op_mulU
theorem op_eqK (hu : X.A.units + 64 < cLine) (h : X.K = K := by rfl) : OpR X (compareOp .Eq) (rEqU K) := h ▸ op_eqU hu
theorem op_neK (hu : X.A.units + 64 < cLine) (h : X.K = K := by rfl) : OpR X (compareOp .NotEq) (rNeU K) := h ▸ op_neU hu
theorem sl_seqK (h : X.K = K := by rfl) : SlR X (rSlU K) := h ▸ sl_seqU
theorem ix_seqK (h : X.K = K := by rfl) : IxR X (rIx K) := h ▸ ix_seq
theorem op_inK (h : X.K = K := by rfl) : OpR X (compareOp .In) (rIn K false) := h ▸ op_in_seq
theorem op_notInK (h : X.K = K := by rfl) : OpR X (compareOp .NotIn) (rIn K true) := h ▸ op_notIn_seq
theorem call_lenK (h : X.K = K := by rfl) : CallR X (.builtin "len") (rLenQ K) := h ▸ call_len_seq
theorem call_tupleK (h : X.K = K := by rfl) : CallR X (.type "tuple") (rTupQ K) := h ▸ call_tuple_of
theorem call_listK (h : X.K = K := by rfl) : CallR X (.type "list") (rListQ K) := h ▸ call_list_of
theorem call_isiK (h : X.K = K := by rfl) : CallR X (.builtin "isinstance") (rIsi K) := h ▸ call_isi
theorem call_reprK (gd : X.A.guards = some []) (hu : X.A.units + 66 < cLine) (h : X.K = K := by rfl) : CallR X (.builtin "repr") (rReprD K) := h ▸ call_reprD gd hu
theorem cr_anyK (hc : X.calm = true) (h : X.K = K := by rfl) : CallR X (.builtin "any") (rAny K) := h ▸ cr_any hc
theorem cr_allK (hc : X.calm = true) (h : X.K = K := by rfl) : CallR X (.builtin "all") (rAll K) := h ▸ cr_all hc
theorem pi_seqK {tg l : Expr} {t : TE} (e : PE X l t) (h : X.K = K := by rfl) : PI X tg l (iSeqU K t) := h ▸ pi_seqU e
theorem pi_listK {tg l : Expr} {t : TE} (e : PE X l t) (h : X.K = K := by rfl) : PI X tg l (iList K t) := h ▸ pi_list e
end
section
variable {R : Hp → Hp → Prop} {B : Bn} [rk : Rok B R] {K : PySem.W.Frag} {δ : List (Option PV)} {H : Hp} {ta tb te : TE} {tt tu : TT} {D : Ends} {σ : L2.St} {t u : TS}
theorem EvTx.conv {C C' : Bool → Prop} (h : EvTx R B tt δ H C) (c : ∀ b, C b → C' b) : EvTx R B tt δ H C' := fun σ H1 r S Q k => h σ H1 r S Q fun b H2 z r2 => k b H2 (c b z) r2
theorem EvTx.at_ {C : Bool → Prop} {H' : Hp} (h : EvTx R B tt δ H C) (r : R H H') : EvTx R B tt δ H' C := fun σ H2 r2 => h σ H2 (rk.tr r r2)
end
section
variable {R : Hp → Hp → Prop} {B : Bn} [rk : Rok B R] {K : PySem.W.Frag} {δ : List (Option PV)} {H H' : Hp} {to ti te : TE} {p q w : PV} {tt : TT} {D : Ends} {σ : L2.St} {t u e : TS} {i j l : Nat}
end
section
variable {R : Hp → Hp → Prop} {B : Bn} [rk : Rok B R] {K : PySem.W.Frag} {δ : List (Option PV)} {H : Hp} {te tb : TE}
end
section
variable {R : Hp → Hp → Prop} {B : Bn} [rk : Rok B R] {K : PySem.W.Frag} {δ : List (Option PV)} {H : Hp} {ta te tb : TE}
theorem cut_sub {α : Type} {xs : List α} {lo hi : Option Int} {x : α} (h : x ∈ cut xs lo hi) : x ∈ xs := List.mem_of_mem_drop (List.mem_of_mem_take h)
theorem cut_len {α : Type} {xs : List α} {lo hi : Option Int} : (cut xs lo hi).length ≤ xs.length := by
  unfold cut
  rw [List.length_take, List.length_drop]
  omega
end
def rLtD (K : PySem.W.Frag) : R2 := fun x y H Q => ∃ d e, Dp K H x d ∧ Dp K H y e ∧ PySem.W.alike d e = true ∧ d ≠ .none ∧ d.depth ≤ 64 ∧ Q (.bl (PySem.W.dataLt d e)) H
theorem op_ltD {X : Cx} (hu : X.A.units + 64 < cLine) : OpR X (compareOp .Lt) (rLtD X.K) := by
  intro pins s σ H x y v u Q I rx ry h
  obtain ⟨d, e, hd, he, ha, hn, hl, q⟩ := h
  obtain ⟨as, r1⟩ := Dp.reads I d x v hd rx
  obtain ⟨bs, r2⟩ := Dp.reads I e y u he ry
  exact PySem.W.rcLt_alike d e X.A s v u as bs r1 r2 ha hn (by omega) _ _ _ _ ⟨.bl _, H, I, rfl, q⟩
def rLtU (K : PySem.W.Frag) : R2 := rOr (rI0 fun i j => .bl (decide (i < j))) (rLtD K)
theorem op_ltK {X : Cx} (K : PySem.W.Frag) (hu : X.A.units + 64 < cLine) (h : X.K = K := by rfl) : OpR X (compareOp .Lt) (rLtU K) := h ▸ op_or op_lt (op_ltD hu)
section
variable {R : Hp → Hp → Prop} {B : Bn} [rk : Rok B R] {K : PySem.W.Frag} {δ : List (Option PV)} {H : Hp} {ta te tb : TE} {D : Ends} {σ : L2.St} {u tbd : TS}
theorem src_zip {ds es : List PyData} (ha : Ev R B ta δ H (im K B (.list ds))) (hb : Ev R B tb δ H (im K B (.list es))) (hl : ds.length = es.length) :
    Src R B (iZip K (tCons ta (tCons tb tNil))) δ H ds.length (fun i => im K B (.tuple [ds.getD i .none, es.getD i .none])) := fun σ H1 r S Q k =>
  ha σ H1 r S _ fun v H2 r2 hv => hb σ H2 (rk.tr r r2) (S.mono (rk.rb r2)) _ fun w H3 r3 ⟨b, ws, e', nb', s', hw⟩ => by
    obtain ⟨a, vs, e, nb, s, hv⟩ := im_st (rk.rb r3) _ _ hv
    refine ⟨a, b, vs, ws, by rw [e, e'], s, s', k _ (fun Hc => (SqL K Hc a vs ∧ SqL K Hc b ws) ∧ imAll K B ds vs Hc ∧ imAll K B es ws Hc) H3 (rk.tr r2 r3) ?_ fun H4 rb => ⟨⟨rb.sqL nb s, rb.sqL nb' s'⟩, imAll_st rb _ _ hv, imAll_st rb _ _ hw⟩⟩
    refine (walk_zip (by rw [imAll_len hv, imAll_len hw, ← hl, Nat.min_self])).mono (fun _ z => z.1) fun i Ha x Hb _ g ⟨T, y, z, ex, hT, eH, e1, e2⟩ => ?_
    subst eH
    have r4 := Ex.new (o := .tup [y, z]) hT
    exact ⟨r4, T, [y, z], ex, sqT_of upd_same, y, [z], rfl, im_st (RB.of_ex r4) _ _ (getD_im g.2.1 e1), z, [], rfl, im_st (RB.of_ex r4) _ _ (getD_im g.2.2 e2), rfl⟩
theorem Ev.own {p : Addr} {vs : List V} {ds : List PyData} (h : Ev R B te δ H (isP (.ref p))) (nb : ¬ B p) (e : H p = some (.lst vs)) (hv : imAll K B ds vs H) : Ev R B te δ H (im K B (.list ds)) :=
  h.conv fun v H1 r q => ⟨p, vs, q, nb, sqL_of ((rk.rb r).keep _ _ nb e), imAll_st (rk.rb r) _ _ hv⟩
end
def PS : List (Option PV) → Prop
  | [] => True
  | none :: l => PS l
  | some q :: l => (∀ v H H', TK H H' → q v H → q v H') ∧ PS l
theorem PS.get : ∀ {δ : List (Option PV)} {i : Nat} {q : PV}, PS δ → δ[i]? = some (some q) → ∀ v H H', TK H H' → q v H → q v H'
  | [], _, _, _, e => by simp at e
  | none :: l, 0, _, _, e => by simp at e
  | none :: l, i + 1, _, h, e => PS.get (δ := l) (i := i) h (by simpa using e)
  | some q :: l, 0, _, h, e => by simp at e; subst e; exact h.1
  | some q :: l, i + 1, _, h, e => PS.get (δ := l) (i := i) h.2 (by simpa using e)
theorem SD.tk {B : Bn} {H H' : Hp} {σ : L2.St} {δ : List (Option PV)} (s : SD B H σ δ) (o : BOk B H') (t : TK H H') (p : PS δ) : SD B H' σ δ := ⟨o, s.len, fun i q e => by
  obtain ⟨a, v, e1, h⟩ := s.at_ i q e
  exact ⟨a, v, e1, p.get e v H H' t h⟩⟩
section
variable {B : Bn} {K : PySem.W.Frag} {δ : List (Option PV)} {H : Hp} {te : TE} {D : Ends} {σ : L2.St} {u : TS}
end
theorem canLayAll_of : ∀ {ds : List PyData}, (∀ d ∈ ds, PyData.canLay0 d = true) → PyData.canLayAll0 ds = true
  | [], _ => by simp [PyData.canLayAll0]
  | d :: ds, h => by simp only [PyData.canLayAll0, h d (List.mem_cons_self ..), canLayAll_of fun e he => h e (List.mem_cons_of_mem _ he), Bool.and_self]
theorem depthAll_of {n : Nat} : ∀ {ds : List PyData}, (∀ d ∈ ds, PyData.depth d ≤ n) → PyData.depthAll ds ≤ n
  | [], _ => by simp [PyData.depthAll]
  | d :: ds, h => by
    have h1 := h d (List.mem_cons_self ..)
    have h2 := depthAll_of fun e he => h e (List.mem_cons_of_mem _ he)
    simp only [PyData.depthAll]
    omega
theorem shaped_list {ds : List PyData} {n : Nat} (h1 : ∀ d ∈ ds, PyData.canLay0 d = true) (h2 : ∀ d ∈ ds, PyData.depth d ≤ n) (hn : n ≤ 60) : SeqAt.shaped (.list ds) = true := by
  unfold SeqAt.shaped
  have a := canLayAll_of h1
  have b := depthAll_of h2
  simp only [PyData.canLay0, a, PyData.depth, Bool.true_and]
  exact decide_eq_true (by omega)
abbrev ord (b r : List Int) : PyData := .tuple [.int ((b.length + r.length : Nat) : Int), .int (b.length : Nat), tI b, tI r]
def ownE (B : Bn) (a : Addr) : PV := fun v Hc => v = .ref a ∧ ¬ B a ∧ Hc a = some (.lst [])
instance {B : Bn} {a : Addr} : Stb B (ownE B a) := ⟨fun r ⟨e, n, h⟩ => ⟨e, n, r.keep _ _ n h⟩⟩
abbrev ownX (B : Bn) : PV := exP (fun _ : Addr => True) (ownE B)
section
variable {R : Hp → Hp → Prop} {B : Bn} [rk : Rok B R] [rm : Rmk R] {K : PySem.W.Frag} {δ : List (Option PV)} {H : Hp} {ta te tb : TE} {D : Ends} {σ : L2.St} {u tbd : TS}
end
theorem SD.own {B : Bn} {H : Hp} {σ : L2.St} {δ : List (Option PV)} (s : SD B H σ δ) (i : Nat) (e : δ[i]? = some (some (ownX B))) : ∃ a, ¬ B a ∧ H a = some (.lst []) ∧ SD B H σ (δ.set i (some (isP (.ref a)))) := by
  obtain ⟨v, e1, a, _, ev, nb, h⟩ := s.get e
  refine ⟨a, nb, h, s.ok, by rw [List.length_set]; exact s.len, fun j q e2 => ?_⟩
  by_cases z : i = j
  · subst z
    have hl : i < δ.length := by
      rcases Nat.lt_or_ge i δ.length with z | z
      · exact z
      · rw [List.getElem?_eq_none z] at e; cases e
    rw [List.getElem?_set_self hl] at e2
    cases e2
    exact ⟨inferInstance, v, e1, ev⟩
  · rw [List.getElem?_set_ne z] at e2
    exact s.at_ j q e2
theorem SD.up {B : Bn} {H : Hp} {σ : L2.St} {δ : List (Option PV)} {p q : PV} [hq : Stb B q] (s : SD B H σ δ) (i : Nat) (e : δ[i]? = some (some p)) (h : ∀ v, p v H → q v H) : SD B H σ (δ.set i (some q)) := by
  obtain ⟨v, e1, pv⟩ := s.get e
  refine ⟨s.ok, by rw [List.length_set]; exact s.len, fun j w e2 => ?_⟩
  by_cases z : i = j
  · subst z
    have hl : i < δ.length := by
      rcases Nat.lt_or_ge i δ.length with z | z
      · exact z
      · rw [List.getElem?_eq_none z] at e; cases e
    rw [List.getElem?_set_self hl] at e2
    cases e2
    exact ⟨hq, v, e1, h v pv⟩
  · rw [List.getElem?_set_ne z] at e2
    exact s.at_ j w e2
section
variable {R : Hp → Hp → Prop} {B : Bn} [rk : Rok B R] {K : PySem.W.Frag} {δ : List (Option PV)} {H : Hp} {ta te tb : TE} {D : Ends} {σ : L2.St} {u tbd : TS}
theorem Src.conv {wi : TI} {n m : Nat} {Y Z : Nat → PV} (h : Src R B wi δ H n Y) (e : n = m) (c : ∀ i v Hc, i < n → Y i v Hc → Z i v Hc) : Src R B wi δ H m Z := fun σ H1 r S Q k =>
  h σ H1 r S Q fun J G H2 r2 w g => k J G H2 r2 (e ▸ w.mono (fun _ z => z) fun i Ha x Hb hi _ y => ⟨y.1, c i x Hb hi y.2⟩) g
end
def rawL (K : PySem.W.Frag) (B : Bn) (ds : List PyData) : PV := fun v Hc => ∃ a vs, v = .ref a ∧ ¬ B a ∧ Hc a = some (.lst vs) ∧ imAll K B ds vs Hc
instance {K : PySem.W.Frag} {B : Bn} {ds : List PyData} : Stb B (rawL K B ds) := ⟨fun r ⟨a, vs, e, nb, h, q⟩ => ⟨a, vs, e, nb, r.keep _ _ nb h, imAll_st r _ _ q⟩⟩
theorem rawL.im {K : PySem.W.Frag} {B : Bn} {Hc : Hp} {ds : List PyData} {v : V} (h : rawL K B ds v Hc) : im K B (.list ds) v Hc := by
  obtain ⟨a, vs, e, nb, h, q⟩ := h
  exact ⟨a, vs, e, nb, sqL_of h, q⟩
theorem newL.raw {K : PySem.W.Frag} {B : Bn} {H Hc : Hp} {ds : List PyData} {v : V} (h : newL K B H ds v Hc) : rawL K B ds v Hc := by
  obtain ⟨a, vs, e, n, nb, h, q⟩ := h
  exact ⟨a, vs, e, nb, h, q⟩
section
variable {R : Hp → Hp → Prop} {B : Bn} [rk : Rok B R] {K : PySem.W.Frag} {δ : List (Option PV)} {H : Hp} {ta te tb : TE} {D : Ends} {σ : L2.St} {u tbd : TS}
theorem ev_max2 {i j : Int} (ha : Ev R B ta δ H (im K B (.int i))) (hb : Ev R B tb δ H (im K B (.int j))) : Ev R B (tCB (fun xs H Q => ∃ i j, xs = [.int i, .int j] ∧ Q (.int (if j > i then j else i)) H) (tCons ta (tCons tb tNil))) δ H (im K B (.int (if j > i then j else i))) :=
  ev_cb (ea_cons ha (ea_cons hb ea_nil)) fun vs H1 _ _ ⟨v, r, e, h1, v2, r2, e2, h2, e3⟩ Q k => by
    subst e e2; cases (show r2 = [] from e3)
    rw [show v = _ from h1, show v2 = _ from h2]
    exact ⟨i, j, rfl, k _ H1 (rk.rf H1) rfl⟩
def SrcD (R : Hp → Hp → Prop) (B : Bn) (wi : TI) (δ : List (Option PV)) (H : Hp) (n : Nat) (Y : Nat → PV) : Prop := ∀ σ H1 A, R H H1 → SD B H1 σ δ → H1 A ≠ none → ∀ Q : It → Hp → Prop,
  (∀ (J : It) (G : Hp → Prop) (H2 : Hp), R H1 H2 → Walk J n G (fun i Ha x Hb => Ex Ha Hb ∧ Y i x Hb) → (∀ H3, RB (fun a => B a ∨ a = A) H2 H3 → G H3) → Q J H2) → wi σ H1 Q
end
section
variable {R : Hp → Hp → Prop} {B : Bn} [rk : Rok B R] {K : PySem.W.Frag} {δ : List (Option PV)} {H : Hp} {ta te tb : TE} {D : Ends} {σ : L2.St} {u tbd : TS} {tt : TT}
def newSp {α : Type} (K : PySem.W.Frag) (args : α → List PyData) (pre : α → Prop) (res : α → List PyData) : Sp := fun vs H Q _ =>
  ∃ a : α, imAll K (fun _ => False) (args a) vs H ∧ pre a ∧ ∀ v H', Ex H H' → newL K (fun _ => False) H (res a) v H' → Q v H'
theorem newSp.len {α : Type} {K : PySem.W.Frag} {args : α → List PyData} {pre : α → Prop} {res : α → List PyData} {n : Nat} (h : ∀ a, (args a).length = n) {vs : List V} {H : Hp} {Q : VK} {E : XK} (q : newSp K args pre res vs H Q E) : vs.length = n := by
  obtain ⟨a, hv, _⟩ := q
  rw [imAll_len hv, h]
theorem SrcD.conv {wi : TI} {n m : Nat} {Y Z : Nat → PV} (h : SrcD R B wi δ H n Y) (e : n = m) (c : ∀ i v Hc, i < n → Y i v Hc → Z i v Hc) : SrcD R B wi δ H m Z := fun σ H1 A r S hA Q k =>
  h σ H1 A r S hA Q fun J G H2 r2 w g => k J G H2 r2 (e ▸ w.mono (fun _ z => z) fun i Ha x Hb hi _ y => ⟨y.1, c i x Hb hi y.2⟩) g
end
section
variable {B : Bn} {K : PySem.W.Frag} {δ : List (Option PV)} {H : Hp} {te : TE} {D : Ends} {σ : L2.St} {u : TS}
end
theorem newL.back {K : PySem.W.Frag} {B : Bn} {H H0 Hc : Hp} {ds : List PyData} {v : V} (e : Ex H H0) (h : newL K B H0 ds v Hc) : newL K B H ds v Hc := by
  obtain ⟨a, vs, ev, n, nb, hx, hv⟩ := h
  exact ⟨a, vs, ev, e.free n, nb, hx, hv⟩
section
variable {R : Hp → Hp → Prop} {B : Bn} [rk : Rok B R] {K : PySem.W.Frag} {δ δ' : List (Option PV)} {H : Hp} {ta te tb : TE} {D : Ends} {σ : L2.St} {u tbd : TS} {tt : TT}
end
section
variable {B : Bn} {K : PySem.W.Frag} {δ δ' : List (Option PV)} {H : Hp} {te : TE} {D : Ends} {σ : L2.St} {u : TS}
end
section
variable {B : Bn} {K : PySem.W.Frag} {δ δ' : List (Option PV)} {H : Hp} {te : TE} {D : Ends} {σ : L2.St} {u : TS}
end
abbrev plus (B : Bn) (p : Addr) : Bn := fun a => B a ∨ a = p
theorem plus.ok {B : Bn} {p : Addr} {H : Hp} {xs : List V} (o : BOk B H) (h : H p = some (.lst xs)) : BOk (plus B p) H := fun a z => z.elim (o a) fun e => by rw [e, h]; exact fun q => nomatch q
theorem op_inDK {X : Cx} (K : PySem.W.Frag) (hu : X.A.units + 66 < cLine) (h : X.K = K := by rfl) : OpR X (compareOp .In) (rInD K) := h ▸ op_inD (by omega)
theorem op_notInDK {X : Cx} (K : PySem.W.Frag) (hu : X.A.units + 66 < cLine) (h : X.K = K := by rfl) : OpR X (compareOp .NotIn) (rNotInD K) := h ▸ op_notInD (by omega)
section
variable {R : Hp → Hp → Prop} {B : Bn} [rk : Rok B R] {K : PySem.W.Frag} {δ : List (Option PV)} {H : Hp} {ta te tb : TE}
end
section
variable {B : Bn} {h l : Addr} [hs : Has B h l] {K : PySem.W.Frag} {δ : List (Option PV)} {H : Hp} {te : TE} {D : Ends} {σ : L2.St}
end
end EL
namespace UX
open PySem PySem.Spec PyProof.Rows L2
open EL (Ex RB BOk Bn TK)
inductive U where
  | non | bl (b : Bool) | int (i : Int) | str (x : Str)
  | tup (us : List U) | lst (us : List U)
  | dct (ks : List Key) (us : List U)
  | dcT (ks : List (List Key)) (us : List U)
  | dcN (ks : List U) (us : List U)
  | obj (c : Str) (ns : List Str) (us : List U)
  | top (x : Str)
  | frl (us : List U)
  | loc (i : Nat)
  | exc (c : Str)
  | exo (c f : Str) (u : U)
mutual
def nkU : U → Option NestedKey
  | .non => some .none
  | .bl b => some (.num (if b = true then 1 else 0))
  | .int i => some (.num i)
  | .tup us => (nkAll us).map .tup
  | .str _ => none
  | .lst _ => none
  | .dct _ _ => none
  | .dcT _ _ => none
  | .dcN _ _ => none
  | .obj _ _ _ => none
  | .top _ => none
  | .frl _ => none
  | .loc _ => none
  | .exc _ => none
  | .exo _ _ _ => none
def nkAll : List U → Option (List NestedKey)
  | [] => some []
  | u :: us => match nkU u, nkAll us with
    | some d, some ds => some (d :: ds)
    | _, _ => none
end
def nk8 (u : U) : Option NestedKey := match nkU u with
  | some k => if k.depth ≤ 8 then some k else none
  | none => none
def nk8s : List U → Option (List NestedKey)
  | [] => some []
  | u :: us => match nk8 u, nk8s us with
    | some d, some ds => some (d :: ds)
    | _, _ => none
abbrev NP : Type := NestedKey × Addr × V
def nkA (kvs : List NP) : List V := kvs.map fun x => V.ref x.2.1
def nkV (kvs : List NP) : List V := kvs.map fun x => x.2.2
def NKV (kvs : List NP) (xs : List (NestedKey × Addr × Value)) : Prop := Paired (fun (p : NP) (q : NestedKey × Addr × Value) => p.1 = q.1 ∧ p.2.1 = q.2.1 ∧ RelV p.2.2 q.2.2) kvs xs
def DNh (P : Program) (w : World) (a : Addr) (kvs : List NP) (h : Heap) : Prop := kvs.length ≤ sizeLine ∧ (a == sysModules) = false ∧ ∃ xs : List (NestedKey × Addr × Value), NKV kvs xs ∧
  ∃ o es ep, h.get? a = some o ∧ o.ExactDict ∧ o.data = .dict es ep ∧ es.toList = xs.map (entryOfKey (nestedKind P w)) ∧ (xs.map (·.1)).Nodup
def DNo (a : Addr) (kvs : List NP) : HO := .ext fun h => ∃ (P : Program) (w : World), DNh P w a kvs h
def ExK (C a : Addr) : HO := .ext fun h => ∃ (oe : Obj) (vs : Array Value), h.get? a = some oe ∧ (oe.cls = .ref C ∧ oe.dict = none) ∧ oe.data = .fields vs
def ExKD (C a d : Addr) : HO := .ext fun h => ∃ (oe : Obj) (vs : Array Value), h.get? a = some oe ∧ (oe.cls = .ref C ∧ oe.dict = some d) ∧ oe.data = .fields vs
def ExKo (C a : Addr) : Option Addr → HO
  | none => ExK C a
  | some d => ExKD C a d
structure Cxt where
  K : PySem.W.Frag
  at_ : Str → Addr
def FrL (K : PySem.W.Frag) (B : Bn) (H : Hp) (a : Addr) (vs : List V) : Prop := (¬ B a ∧ H a = some (.lst vs)) ∨ (∃ o, H a = some (.frz o (.lst vs))) ∨ SqL K (fun _ => none) a vs
theorem FrL.sq {K : PySem.W.Frag} {B : Bn} {H : Hp} {a : Addr} {vs : List V} (h : FrL K B H a vs) : SqL K H a vs := by
  rcases h with ⟨_, h⟩ | ⟨o, h⟩ | h
  · exact .inl (.inl h)
  · exact .inl (.inr ⟨o, h⟩)
  · rcases h with (h | ⟨o, h⟩) | h
    · cases h
    · cases h
    · exact .inr h
theorem FrL.of {K : PySem.W.Frag} {B : Bn} {H : Hp} {a : Addr} {vs : List V} (nb : ¬ B a) (h : SqL K H a vs) : FrL K B H a vs := by
  rcases h with (h | ⟨o, h⟩) | h
  · exact .inl ⟨nb, h⟩
  · exact .inr (.inl ⟨o, h⟩)
  · exact .inr (.inr (.inr h))
structure Kd (B : Bn) (H H' : Hp) : Prop where
  lst : ∀ a xs, ¬ B a → H a = some (.lst xs) → H' a = some (.lst xs)
  ins : ∀ a C dx fs, ¬ B a → H a = some (.ins C dx fs) → H' a = some (.ins C dx fs)
  dK : ∀ a kvs, ¬ B a → Rd H a (.dK kvs) → Rd H' a (.dK kvs)
  dT : ∀ a kvs, ¬ B a → Rd H a (.dT kvs) → Rd H' a (.dT kvs)
  ext : ∀ a φ, ¬ B a → Rd H a (.ext φ) → Rd H' a (.ext φ)
  xd : ∀ a fs, ¬ B a → Rd H a (.xd fs) → Rd H' a (.xd fs)
  tup : ∀ a xs, H a = some (.tup xs) → H' a = some (.tup xs)
  ftup : ∀ a o xs, H a = some (.frz o (.tup xs)) → H' a = some (.frz o (.tup xs))
  flst : ∀ a o xs, H a = some (.frz o (.lst xs)) → H' a = some (.frz o (.lst xs))
theorem kd_of {B : Bn} {H H' : Hp} (r : RB B H H') : Kd B H H' :=
  ⟨fun a xs n h => r.keep _ _ n h, fun a C dx fs n h => r.keep _ _ n h,
   fun a kvs n h => h.elim (fun h => .inl (r.keep _ _ n h)) fun ⟨o, h⟩ => .inr ⟨o, r.frz _ _ _ h⟩,
   fun a kvs n h => h.elim (fun h => .inl (r.keep _ _ n h)) fun ⟨o, h⟩ => .inr ⟨o, r.frz _ _ _ h⟩,
   fun a φ n h => h.elim (fun h => .inl (r.keep _ _ n h)) fun ⟨o, h⟩ => .inr ⟨o, r.frz _ _ _ h⟩,
   fun a fs n h => h.elim (fun h => .inl (r.keep _ _ n h)) fun ⟨o, h⟩ => .inr ⟨o, r.frz _ _ _ h⟩, r.tup, fun a o xs h => r.frz _ _ _ h, fun a o xs h => r.frz _ _ _ h⟩
theorem Kd.dN {B : Bn} {H H' : Hp} (r : Kd B H H') (a b : Addr) (kvs : List NP) (n : ¬ B a) (h : Rd H a (DNo b kvs)) : Rd H' a (DNo b kvs) := r.ext a _ n h
theorem Kd.sqT {B : Bn} {K : PySem.W.Frag} {H H' : Hp} {a : Addr} {xs : List V} (r : Kd B H H') (h : SqT K H a xs) : SqT K H' a xs := by
  rcases h with (h | ⟨o, h⟩) | h
  · exact .inl (.inl (r.tup _ _ h))
  · exact .inl (.inr ⟨o, r.ftup _ _ _ h⟩)
  · exact .inr h
theorem FrL.st {K : PySem.W.Frag} {B : Bn} {H H' : Hp} {a : Addr} {vs : List V} (r : Kd B H H') (h : FrL K B H a vs) : FrL K B H' a vs := by
  rcases h with ⟨n, h⟩ | ⟨o, h⟩ | h
  · exact .inl ⟨n, r.lst _ _ n h⟩
  · exact .inr (.inl ⟨o, r.flst _ _ _ h⟩)
  · exact .inr (.inr h)
theorem FrL.sub {K : PySem.W.Frag} {B B' : Bn} {H : Hp} {a : Addr} {vs : List V} (s : ∀ a, H a ≠ none → B' a → B a) (h : FrL K B H a vs) : FrL K B' H a vs := by
  rcases h with ⟨n, h⟩ | ⟨o, h⟩ | h
  · exact .inl ⟨fun b => n (s a (by rw [h]; exact fun z => nomatch z) b), h⟩
  · exact .inr (.inl ⟨o, h⟩)
  · exact .inr (.inr h)
theorem rd_ne {H : Hp} {a : Addr} {u : HO} (h : Rd H a u) : H a ≠ none := by
  rcases h with h | ⟨o, h⟩ <;> rw [h] <;> exact fun z => nomatch z
section
variable (G : Cxt) (rs : List Addr) (B : Bn)
mutual
def im : U → V → Hp → Prop
  | .non, v, _ => v = .non
  | .bl b, v, _ => v = .bl b
  | .int i, v, _ => v = .int i
  | .str x, v, _ => v = .str x
  | .tup us, v, H => ∃ a vs, v = .ref a ∧ H a = some (.tup vs) ∧ imAll us vs H
  | .lst us, v, H => ∃ a vs, v = .ref a ∧ ¬ B a ∧ H a = some (.lst vs) ∧ imAll us vs H
  | .dct ks us, v, H => ∃ a vs, v = .ref a ∧ ¬ B a ∧ Rd H a (.dK (ks.zip vs)) ∧ ks.length = us.length ∧ imAll us vs H
  | .dcT ks us, v, H => ∃ a vs, v = .ref a ∧ ¬ B a ∧ Rd H a (.dT (ks.zip vs)) ∧ ks.length = us.length ∧ imAll us vs H
  | .dcN ks us, v, H => ∃ a kvs, v = .ref a ∧ ¬ B a ∧ Rd H a (DNo a kvs) ∧ nk8s ks = some (kvs.map (·.1)) ∧ imAll ks (nkA kvs) H ∧ imAll us (nkV kvs) H
  | .obj c ns us, v, H => ∃ a dx vs, v = .ref a ∧ ¬ B a ∧ H a = some (.ins (G.at_ c) dx (ns.zip vs)) ∧ ns.length = us.length ∧ imAll us vs H
  | .top x, v, _ => v = .ref (G.at_ x)
  | .frl us, v, H => ∃ a vs, v = .ref a ∧ FrL G.K B H a vs ∧ imAll us vs H
  | .loc i, v, _ => ∃ a, rs[i]? = some a ∧ v = .ref a
  | .exc c, v, H => ∃ a, v = .ref a ∧ ¬ B a ∧ Rd H a (ExK (G.at_ c) a)
  | .exo c f u, v, H => ∃ a d w, v = .ref a ∧ ¬ B a ∧ ¬ B d ∧ Rd H a (ExKD (G.at_ c) a d) ∧ Rd H d (.xd [(f, w)]) ∧ im u w H
def imAll : List U → List V → Hp → Prop
  | [], vs, _ => vs = []
  | u :: us, vs, H => ∃ v r, vs = v :: r ∧ im u v H ∧ imAll us r H
end
end
section
variable {G : Cxt} {rs rs' : List Addr} {B B' : Bn} {H H' : Hp}
mutual
theorem im_kd (r : Kd B H H') : ∀ (u : U) (v : V), im G rs B u v H → im G rs B u v H'
  | .non, _, h => h
  | .bl _, _, h => h
  | .int _, _, h => h
  | .str _, _, h => h
  | .tup us, _, ⟨a, vs, e, s, q⟩ => ⟨a, vs, e, r.tup _ _ s, imAll_kd r us vs q⟩
  | .lst us, _, ⟨a, vs, e, n, s, q⟩ => ⟨a, vs, e, n, r.lst _ _ n s, imAll_kd r us vs q⟩
  | .dct ks us, _, ⟨a, vs, e, n, s, l, q⟩ => ⟨a, vs, e, n, r.dK _ _ n s, l, imAll_kd r us vs q⟩
  | .dcT ks us, _, ⟨a, vs, e, n, s, l, q⟩ => ⟨a, vs, e, n, r.dT _ _ n s, l, imAll_kd r us vs q⟩
  | .dcN ks us, _, ⟨a, kvs, e, n, s, l, q1, q2⟩ => ⟨a, kvs, e, n, r.dN _ _ _ n s, l, imAll_kd r ks _ q1, imAll_kd r us _ q2⟩
  | .obj c ns us, _, ⟨a, dx, vs, e, n, s, l, q⟩ => ⟨a, dx, vs, e, n, r.ins _ _ _ _ n s, l, imAll_kd r us vs q⟩
  | .top _, _, h => h
  | .frl us, _, ⟨a, vs, e, s, q⟩ => ⟨a, vs, e, s.st r, imAll_kd r us vs q⟩
  | .loc _, _, h => h
  | .exc _, _, ⟨a, e, n, s⟩ => ⟨a, e, n, r.ext _ _ n s⟩
  | .exo _ _ u, _, ⟨a, d, w, e, n, n2, s, s2, q⟩ => ⟨a, d, w, e, n, n2, r.ext _ _ n s, r.xd _ _ n2 s2, im_kd r u w q⟩
theorem imAll_kd (r : Kd B H H') : ∀ (us : List U) (vs : List V), imAll G rs B us vs H → imAll G rs B us vs H'
  | [], _, h => h
  | u :: us, _, ⟨v, w, e, h1, h2⟩ => ⟨v, w, e, im_kd r u v h1, imAll_kd r us w h2⟩
end
theorem im_st (r : RB B H H') (u : U) (v : V) (h : im G rs B u v H) : im G rs B u v H' := im_kd (kd_of r) u v h
theorem imAll_st (r : RB B H H') (us : List U) (vs : List V) (h : imAll G rs B us vs H) : imAll G rs B us vs H' := imAll_kd (kd_of r) us vs h
mutual
theorem im_sub (s : ∀ a, H a ≠ none → B' a → B a) : ∀ (u : U) (v : V), im G rs B u v H → im G rs B' u v H
  | .non, _, h => h
  | .bl _, _, h => h
  | .int _, _, h => h
  | .str _, _, h => h
  | .tup us, _, ⟨a, vs, e, t, q⟩ => ⟨a, vs, e, t, imAll_sub s us vs q⟩
  | .lst us, _, ⟨a, vs, e, n, t, q⟩ => ⟨a, vs, e, fun b => n (s a (by rw [t]; exact fun z => nomatch z) b), t, imAll_sub s us vs q⟩
  | .dct ks us, _, ⟨a, vs, e, n, t, l, q⟩ => ⟨a, vs, e, fun b => n (s a (rd_ne t) b), t, l, imAll_sub s us vs q⟩
  | .dcT ks us, _, ⟨a, vs, e, n, t, l, q⟩ => ⟨a, vs, e, fun b => n (s a (rd_ne t) b), t, l, imAll_sub s us vs q⟩
  | .dcN ks us, _, ⟨a, kvs, e, n, t, l, q1, q2⟩ => ⟨a, kvs, e, fun b => n (s a (rd_ne t) b), t, l, imAll_sub s ks _ q1, imAll_sub s us _ q2⟩
  | .obj c ns us, _, ⟨a, dx, vs, e, n, t, l, q⟩ => ⟨a, dx, vs, e, fun b => n (s a (by rw [t]; exact fun z => nomatch z) b), t, l, imAll_sub s us vs q⟩
  | .top _, _, h => h
  | .frl us, _, ⟨a, vs, e, t, q⟩ => ⟨a, vs, e, t.sub s, imAll_sub s us vs q⟩
  | .loc _, _, h => h
  | .exc _, _, ⟨a, e, n, t⟩ => ⟨a, e, fun b => n (s a (rd_ne t) b), t⟩
  | .exo _ _ u, _, ⟨a, d, w, e, n, n2, t, t2, q⟩ => ⟨a, d, w, e, fun b => n (s a (rd_ne t) b), fun b => n2 (s d (rd_ne t2) b), t, t2, im_sub s u w q⟩
theorem imAll_sub (s : ∀ a, H a ≠ none → B' a → B a) : ∀ (us : List U) (vs : List V), imAll G rs B us vs H → imAll G rs B' us vs H
  | [], _, h => h
  | u :: us, _, ⟨v, w, e, h1, h2⟩ => ⟨v, w, e, im_sub s u v h1, imAll_sub s us w h2⟩
end
mutual
theorem im_rs (s : ∀ (i : Nat) (a : Addr), rs[i]? = some a → rs'[i]? = some a) : ∀ (u : U) (v : V), im G rs B u v H → im G rs' B u v H
  | .non, _, h => h
  | .bl _, _, h => h
  | .int _, _, h => h
  | .str _, _, h => h
  | .tup us, _, ⟨a, vs, e, t, q⟩ => ⟨a, vs, e, t, imAll_rs s us vs q⟩
  | .lst us, _, ⟨a, vs, e, n, t, q⟩ => ⟨a, vs, e, n, t, imAll_rs s us vs q⟩
  | .dct ks us, _, ⟨a, vs, e, n, t, l, q⟩ => ⟨a, vs, e, n, t, l, imAll_rs s us vs q⟩
  | .dcT ks us, _, ⟨a, vs, e, n, t, l, q⟩ => ⟨a, vs, e, n, t, l, imAll_rs s us vs q⟩
  | .dcN ks us, _, ⟨a, kvs, e, n, t, l, q1, q2⟩ => ⟨a, kvs, e, n, t, l, imAll_rs s ks _ q1, imAll_rs s us _ q2⟩
  | .obj c ns us, _, ⟨a, dx, vs, e, n, t, l, q⟩ => ⟨a, dx, vs, e, n, t, l, imAll_rs s us vs q⟩
  | .top _, _, h => h
  | .frl us, _, ⟨a, vs, e, t, q⟩ => ⟨a, vs, e, t, imAll_rs s us vs q⟩
  | .loc _, _, ⟨a, e, h⟩ => ⟨a, s _ _ e, h⟩
  | .exc _, _, h => h
  | .exo _ _ u, _, ⟨a, d, w, e, n, n2, t, t2, q⟩ => ⟨a, d, w, e, n, n2, t, t2, im_rs s u w q⟩
theorem imAll_rs (s : ∀ (i : Nat) (a : Addr), rs[i]? = some a → rs'[i]? = some a) : ∀ (us : List U) (vs : List V), imAll G rs B us vs H → imAll G rs' B us vs H
  | [], _, h => h
  | u :: us, _, ⟨v, w, e, h1, h2⟩ => ⟨v, w, e, im_rs s u v h1, imAll_rs s us w h2⟩
end
theorem imAll_len : ∀ {us : List U} {vs : List V}, imAll G rs B us vs H → vs.length = us.length
  | [], _, h => by rw [show _ = _ from h]; rfl
  | d :: ds, _, ⟨v, w, e, _, h2⟩ => by rw [e, List.length_cons, List.length_cons, imAll_len h2]
theorem imAll_get : ∀ {us : List U} {vs : List V} {i : Nat} {u : U}, imAll G rs B us vs H → us[i]? = some u → ∃ v, vs[i]? = some v ∧ im G rs B u v H
  | [], _, _, _, _, e => by simp at e
  | d :: ds, _, 0, d', ⟨v, w, e, h1, h2⟩, e' => by
    simp at e'; subst e' e; exact ⟨v, rfl, h1⟩
  | d :: ds, _, i + 1, d', ⟨v, w, e, h1, h2⟩, e' => by
    subst e
    obtain ⟨x, e1, e2⟩ := imAll_get (i := i) h2 (by simpa using e')
    exact ⟨x, by simpa using e1, e2⟩
theorem imAll_getV : ∀ {us : List U} {vs : List V} {i : Nat} {v : V}, imAll G rs B us vs H → vs[i]? = some v → ∃ u, us[i]? = some u ∧ im G rs B u v H
  | [], _, _, _, h, e => by rw [show _ = _ from h] at e; simp at e
  | d :: ds, _, 0, v', ⟨v, w, e, h1, h2⟩, e' => by
    subst e; simp at e'; subst e'; exact ⟨d, rfl, h1⟩
  | d :: ds, _, i + 1, v', ⟨v, w, e, h1, h2⟩, e' => by
    subst e
    obtain ⟨x, e1, e2⟩ := imAll_getV (i := i) h2 (by simpa using e')
    exact ⟨x, by simpa using e1, e2⟩
theorem imAll_append : ∀ {us us' : List U} {vs ws : List V}, imAll G rs B us vs H → imAll G rs B us' ws H → imAll G rs B (us ++ us') (vs ++ ws) H
  | [], _, _, _, h, h' => by rw [show _ = _ from h]; exact h'
  | d :: ds, es, _, ws, ⟨v, w, e, h1, h2⟩, h' => by
    subst e; exact ⟨v, w ++ ws, rfl, h1, imAll_append h2 h'⟩
theorem imAll_snoc {us : List U} {vs : List V} {u : U} {v : V} (h : imAll G rs B us vs H) (h' : im G rs B u v H) : imAll G rs B (us ++ [u]) (vs ++ [v]) H := imAll_append h ⟨v, [], rfl, h', rfl⟩
theorem imAll_take : ∀ {us : List U} {vs : List V} (n : Nat), imAll G rs B us vs H → imAll G rs B (us.take n) (vs.take n) H
  | _, _, 0, _ => rfl
  | [], _, n + 1, h => by rw [show _ = _ from h]; rfl
  | d :: ds, _, n + 1, ⟨v, w, e, h1, h2⟩ => by subst e; exact ⟨v, _, rfl, h1, imAll_take n h2⟩
theorem imAll_drop : ∀ {us : List U} {vs : List V} (n : Nat), imAll G rs B us vs H → imAll G rs B (us.drop n) (vs.drop n) H
  | _, _, 0, h => h
  | [], _, n + 1, h => by rw [show _ = _ from h]; rfl
  | d :: ds, _, n + 1, ⟨v, w, e, h1, h2⟩ => by subst e; exact imAll_drop n h2
theorem imAll_rep {us : List U} {vs : List V} (h : imAll G rs B us vs H) : ∀ n : Nat, imAll G rs B (List.replicate n us).flatten (List.replicate n vs).flatten H
  | 0 => rfl
  | n + 1 => by
    rw [List.replicate_succ, List.replicate_succ, List.flatten_cons, List.flatten_cons]
    exact imAll_append h (imAll_rep h n)
theorem imAll_set : ∀ {us : List U} {vs : List V} {i : Nat} {u : U} {v : V}, imAll G rs B us vs H → im G rs B u v H → imAll G rs B (us.set i u) (vs.set i v) H
  | [], _, _, _, _, h, _ => by rw [show _ = _ from h]; rfl
  | d :: ds, _, 0, u, v, ⟨v', w, e, h1, h2⟩, h => by subst e; exact ⟨v, w, rfl, h, h2⟩
  | d :: ds, _, i + 1, u, v, ⟨v', w, e, h1, h2⟩, h => by subst e; exact ⟨v', _, rfl, h1, imAll_set h2 h⟩
theorem imAll_erase : ∀ {us : List U} {vs : List V} (i : Nat), imAll G rs B us vs H → imAll G rs B (us.eraseIdx i) (vs.eraseIdx i) H
  | [], _, _, h => by rw [show _ = _ from h]; rfl
  | d :: ds, _, 0, ⟨v, w, e, h1, h2⟩ => by subst e; exact h2
  | d :: ds, _, i + 1, ⟨v, w, e, h1, h2⟩ => by subst e; exact ⟨v, _, rfl, h1, imAll_erase i h2⟩
theorem imAll_rev {us : List U} {vs : List V} (h : imAll G rs B us vs H) : imAll G rs B us.reverse vs.reverse H := by
  induction us generalizing vs with
  | nil => rw [show vs = [] from h]; rfl
  | cons u us ih =>
    obtain ⟨v, r, e, h1, h2⟩ := h
    subst e
    rw [List.reverse_cons, List.reverse_cons]
    exact imAll_snoc (ih h2) h1
end
mutual
def pd : U → Option PyData
  | .non => some .none
  | .bl b => some (.bool b)
  | .int i => some (.int i)
  | .str x => some (.str x)
  | .tup us => (pdAll us).map .tuple
  | .lst us => (pdAll us).map .list
  | .dct _ _ => none
  | .dcT _ _ => none
  | .dcN _ _ => none
  | .obj _ _ _ => none
  | .top _ => none
  | .frl us => (pdAll us).map .list
  | .loc _ => none
  | .exc _ => none
  | .exo _ _ _ => none
def pdAll : List U → Option (List PyData)
  | [] => some []
  | u :: us => match pd u, pdAll us with
    | some d, some ds => some (d :: ds)
    | _, _ => none
end
section
variable {G : Cxt} {rs : List Addr} {B B' : Bn} {H H' : Hp}
mutual
theorem im_dp : ∀ (u : U) (v : V) (d : PyData), im G rs B u v H → pd u = some d → Dp G.K H v d
  | .non, _, _, h, e => by cases h; cases e; exact .non
  | .bl _, _, _, h, e => by cases h; cases e; exact .bl _
  | .int _, _, _, h, e => by cases h; cases e; exact .int _
  | .str _, _, _, h, e => by cases h; cases e; exact .str _
  | .tup us, _, d, ⟨a, vs, e, s, q⟩, e' => by
    subst e
    obtain ⟨ds, e1, rfl⟩ := Option.map_eq_some_iff.mp (show (pdAll us).map .tuple = some d from e')
    exact .tup (EL.sqT_of s) (imAll_dp us vs ds q e1)
  | .lst us, _, d, ⟨a, vs, e, _, s, q⟩, e' => by
    subst e
    obtain ⟨ds, e1, rfl⟩ := Option.map_eq_some_iff.mp (show (pdAll us).map .list = some d from e')
    exact .lst (.inl (.inl s)) (imAll_dp us vs ds q e1)
  | .dct _ _, _, _, _, e' => by cases e'
  | .dcT _ _, _, _, _, e' => by cases e'
  | .dcN _ _, _, _, _, e' => by cases e'
  | .obj _ _ _, _, _, _, e' => by cases e'
  | .top _, _, _, _, e' => by cases e'
  | .frl us, _, d, ⟨a, vs, e, s, q⟩, e' => by
    subst e
    obtain ⟨ds, e1, rfl⟩ := Option.map_eq_some_iff.mp (show (pdAll us).map .list = some d from e')
    exact .lst s.sq (imAll_dp us vs ds q e1)
  | .loc _, _, _, _, e' => by cases e'
  | .exc _, _, _, _, e' => by cases e'
  | .exo _ _ _, _, _, _, e' => by cases e'
theorem imAll_dp : ∀ (us : List U) (vs : List V) (ds : List PyData), imAll G rs B us vs H → pdAll us = some ds → DpAll G.K H vs ds
  | [], _, _, h, e => by rw [show _ = _ from h]; cases e; exact .nil
  | u :: us, _, ds, ⟨v, w, e, h1, h2⟩, e' => by
    subst e
    rw [pdAll] at e'
    cases e1 : pd u with
    | none => rw [e1] at e'; cases e'
    | some d =>
      cases e2 : pdAll us with
      | none => rw [e1, e2] at e'; cases e'
      | some ds => rw [e1, e2] at e'; cases e'; exact .cons (im_dp u v d h1 e1) (imAll_dp us w ds h2 e2)
end
end
inductive Sh where
  | leaf | lst (s : Sh) | dct (s : Sh) | tup (f : Nat → Sh) | obj (f : Str → Sh)
def ownZ (P : Nat → U → V → Hp → List Addr → Prop) : Nat → List U → List V → Hp → List Addr → Prop
  | _, [], vs, _, A => vs = [] ∧ A = []
  | n, u :: us, vs, H, A => ∃ v r A1 A2, vs = v :: r ∧ A = A1 ++ A2 ∧ P n u v H A1 ∧ ownZ P (n + 1) us r H A2
def ownD (G : Cxt) (rs : List Addr) (B : Bn) : Sh → U → V → Hp → List Addr → Prop
  | .leaf, u, v, H, A => A = [] ∧ im G rs B u v H
  | .lst s, .lst us, v, H, A => ∃ a vs A', v = .ref a ∧ A = a :: A' ∧ H a = some (.lst vs) ∧ ownZ (fun _ => ownD G rs B s) 0 us vs H A'
  | .dct s, .dct ks us, v, H, A => ∃ a vs A', v = .ref a ∧ A = a :: A' ∧ H a = some (.dK (ks.zip vs)) ∧ ks.length = us.length ∧ ownZ (fun _ => ownD G rs B s) 0 us vs H A'
  | .dct s, .dcT ks us, v, H, A => ∃ a vs A', v = .ref a ∧ A = a :: A' ∧ H a = some (.dT (ks.zip vs)) ∧ ks.length = us.length ∧ ownZ (fun _ => ownD G rs B s) 0 us vs H A'
  | .dct s, .dcN ks us, v, H, A => ∃ a kvs A', v = .ref a ∧ A = a :: A' ∧ H a = some (DNo a kvs) ∧ nk8s ks = some (kvs.map (·.1)) ∧ imAll G rs B ks (nkA kvs) H ∧ ownZ (fun _ => ownD G rs B s) 0 us (nkV kvs) H A'
  | .tup f, .tup us, v, H, A => ∃ a vs, v = .ref a ∧ H a = some (.tup vs) ∧ ownZ (fun n => ownD G rs B (f n)) 0 us vs H A
  | .obj f, .obj c ns us, v, H, A => ∃ a dx vs A', v = .ref a ∧ A = a :: A' ∧ H a = some (.ins (G.at_ c) dx (ns.zip vs)) ∧ ns.length = us.length ∧ ownZ (fun n => ownD G rs B (f (ns.getD n ""))) 0 us vs H A'
  | _, _, _, _, _ => False
section
variable {G : Cxt} {rs rs' : List Addr} {B B' : Bn} {H H' : Hp}
theorem ownZ_mono {P P' : Nat → U → V → Hp → List Addr → Prop} : ∀ {us : List U} {n : Nat} {vs : List V} {A : List Addr}, (∀ n u v A1, (∀ a ∈ A1, a ∈ A) → P n u v H A1 → P' n u v H' A1) → ownZ P n us vs H A → ownZ P' n us vs H' A
  | [], _, _, _, _, h => h
  | u :: us, n, _, _, f, ⟨v, r, A1, A2, e1, e2, h1, h2⟩ => ⟨v, r, A1, A2, e1, e2, f n u v A1 (fun a m => by rw [e2]; exact List.mem_append_left _ m) h1,
      ownZ_mono (fun n u v A3 s p => f n u v A3 (fun a m => by rw [e2]; exact List.mem_append_right _ (s a m)) p) h2⟩
theorem ownZ_len {P : Nat → U → V → Hp → List Addr → Prop} : ∀ {us : List U} {n : Nat} {vs : List V} {A : List Addr}, ownZ P n us vs H A → vs.length = us.length
  | [], _, _, _, h => by rw [h.1]; rfl
  | u :: us, n, _, _, ⟨v, r, A1, A2, e1, e2, h1, h2⟩ => by rw [e1, List.length_cons, List.length_cons, ownZ_len h2]
theorem imAll_mono (hk : ∀ u v, im G rs B u v H → im G rs' B' u v H') : ∀ (us : List U) (vs : List V), imAll G rs B us vs H → imAll G rs' B' us vs H'
  | [], _, h => h
  | u :: us, _, ⟨v, w, e, h1, h2⟩ => ⟨v, w, e, hk u v h1, imAll_mono hk us w h2⟩
theorem own_mono (hk : ∀ u v, im G rs B u v H → im G rs' B' u v H') (ht : ∀ a xs, H a = some (.tup xs) → H' a = some (.tup xs)) : ∀ (s : Sh) (u : U) (v : V) (A : List Addr), (∀ a ∈ A, H' a = H a) → ownD G rs B s u v H A → ownD G rs' B' s u v H' A
  | .leaf, u, v, A, _, h => ⟨h.1, hk u v h.2⟩
  | .lst s, .lst us, v, A, k, ⟨a, vs, A', e1, e2, h, q⟩ => ⟨a, vs, A', e1, e2, by rw [k a (by rw [e2]; exact List.mem_cons_self)]; exact h,
      ownZ_mono (fun n u v A1 m p => own_mono hk ht s u v A1 (fun a z => k a (by rw [e2]; exact List.mem_cons_of_mem _ (m a z))) p) q⟩
  | .dct s, .dct ks us, v, A, k, ⟨a, vs, A', e1, e2, h, l, q⟩ => ⟨a, vs, A', e1, e2, by rw [k a (by rw [e2]; exact List.mem_cons_self)]; exact h, l,
      ownZ_mono (fun n u v A1 m p => own_mono hk ht s u v A1 (fun a z => k a (by rw [e2]; exact List.mem_cons_of_mem _ (m a z))) p) q⟩
  | .dct s, .dcT ks us, v, A, k, ⟨a, vs, A', e1, e2, h, l, q⟩ => ⟨a, vs, A', e1, e2, by rw [k a (by rw [e2]; exact List.mem_cons_self)]; exact h, l,
      ownZ_mono (fun n u v A1 m p => own_mono hk ht s u v A1 (fun a z => k a (by rw [e2]; exact List.mem_cons_of_mem _ (m a z))) p) q⟩
  | .dct s, .dcN ks us, v, A, k, ⟨a, kvs, A', e1, e2, h, l, q1, q⟩ => ⟨a, kvs, A', e1, e2, by rw [k a (by rw [e2]; exact List.mem_cons_self)]; exact h, l, imAll_mono hk ks _ q1,
      ownZ_mono (fun n u v A1 m p => own_mono hk ht s u v A1 (fun a z => k a (by rw [e2]; exact List.mem_cons_of_mem _ (m a z))) p) q⟩
  | .tup f, .tup us, v, A, k, ⟨a, vs, e1, h, q⟩ => ⟨a, vs, e1, ht _ _ h,
      ownZ_mono (fun n u v A1 m p => own_mono hk ht (f n) u v A1 (fun a z => k a (m a z)) p) q⟩
  | .obj f, .obj c ns us, v, A, k, ⟨a, dx, vs, A', e1, e2, h, l, q⟩ => ⟨a, dx, vs, A', e1, e2, by rw [k a (by rw [e2]; exact List.mem_cons_self)]; exact h, l,
      ownZ_mono (fun n u v A1 m p => own_mono hk ht (f (ns.getD n "")) u v A1 (fun a z => k a (by rw [e2]; exact List.mem_cons_of_mem _ (m a z))) p) q⟩
theorem ownZ_leaf {us : List U} {n : Nat} {vs : List V} {A : List Addr} {f : Nat → Sh} (hf : ∀ n, f n = .leaf) : ownZ (fun n => ownD G rs B (f n)) n us vs H A ↔ A = [] ∧ imAll G rs B us vs H := by
  induction us generalizing n vs A with
  | nil => exact ⟨fun h => ⟨h.2, h.1⟩, fun h => ⟨h.2, h.1⟩⟩
  | cons u us ih =>
    constructor
    · rintro ⟨v, r, A1, A2, e1, e2, h1, h2⟩
      rw [hf n] at h1
      obtain ⟨z, h1⟩ := h1
      obtain ⟨z2, h2⟩ := ih.mp h2
      exact ⟨by rw [e2, z, z2]; rfl, v, r, e1, h1, h2⟩
    · rintro ⟨e, v, r, e1, h1, h2⟩
      exact ⟨v, r, [], [], e1, e, by show ownD G rs B (f n) u v H []; rw [hf n]; exact ⟨rfl, h1⟩, ih.mpr ⟨rfl, h2⟩⟩
theorem own_lst {us : List U} {v : V} {A : List Addr} : ownD G rs B (.lst .leaf) (.lst us) v H A ↔ ∃ a vs, v = .ref a ∧ A = [a] ∧ H a = some (.lst vs) ∧ imAll G rs B us vs H := by
  constructor
  · rintro ⟨a, vs, A', e1, e2, h, q⟩
    obtain ⟨z, q⟩ := (ownZ_leaf (f := fun _ => .leaf) fun _ => rfl).mp q
    exact ⟨a, vs, e1, by rw [e2, z], h, q⟩
  · rintro ⟨a, vs, e1, e2, h, q⟩
    exact ⟨a, vs, [], e1, e2, h, (ownZ_leaf (f := fun _ => .leaf) fun _ => rfl).mpr ⟨rfl, q⟩⟩
theorem own_dct {ks : List Key} {us : List U} {v : V} {A : List Addr} : ownD G rs B (.dct .leaf) (.dct ks us) v H A ↔ ∃ a vs, v = .ref a ∧ A = [a] ∧ H a = some (.dK (ks.zip vs)) ∧ ks.length = us.length ∧ imAll G rs B us vs H := by
  constructor
  · rintro ⟨a, vs, A', e1, e2, h, l, q⟩
    obtain ⟨z, q⟩ := (ownZ_leaf (f := fun _ => .leaf) fun _ => rfl).mp q
    exact ⟨a, vs, e1, by rw [e2, z], h, l, q⟩
  · rintro ⟨a, vs, e1, e2, h, l, q⟩
    exact ⟨a, vs, [], e1, e2, h, l, (ownZ_leaf (f := fun _ => .leaf) fun _ => rfl).mpr ⟨rfl, q⟩⟩
theorem own_dcT {ks : List (List Key)} {us : List U} {v : V} {A : List Addr} : ownD G rs B (.dct .leaf) (.dcT ks us) v H A ↔ ∃ a vs, v = .ref a ∧ A = [a] ∧ H a = some (.dT (ks.zip vs)) ∧ ks.length = us.length ∧ imAll G rs B us vs H := by
  constructor
  · rintro ⟨a, vs, A', e1, e2, h, l, q⟩
    obtain ⟨z, q⟩ := (ownZ_leaf (f := fun _ => .leaf) fun _ => rfl).mp q
    exact ⟨a, vs, e1, by rw [e2, z], h, l, q⟩
  · rintro ⟨a, vs, e1, e2, h, l, q⟩
    exact ⟨a, vs, [], e1, e2, h, l, (ownZ_leaf (f := fun _ => .leaf) fun _ => rfl).mpr ⟨rfl, q⟩⟩
theorem own_dcN {ks us : List U} {v : V} {A : List Addr} : ownD G rs B (.dct .leaf) (.dcN ks us) v H A ↔ ∃ a kvs, v = .ref a ∧ A = [a] ∧ H a = some (DNo a kvs) ∧ nk8s ks = some (kvs.map (·.1)) ∧ imAll G rs B ks (nkA kvs) H ∧ imAll G rs B us (nkV kvs) H := by
  constructor
  · rintro ⟨a, vs, A', e1, e2, h, l, q1, q⟩
    obtain ⟨z, q⟩ := (ownZ_leaf (f := fun _ => .leaf) fun _ => rfl).mp q
    exact ⟨a, vs, e1, by rw [e2, z], h, l, q1, q⟩
  · rintro ⟨a, vs, e1, e2, h, l, q1, q⟩
    exact ⟨a, vs, [], e1, e2, h, l, q1, (ownZ_leaf (f := fun _ => .leaf) fun _ => rfl).mpr ⟨rfl, q⟩⟩
end
section
variable (G : Cxt) (rs : List Addr) (B : Bn)
mutual
def ownF : U → V → Hp → List Addr → Prop
  | .lst us, v, H, A => ∃ a vs A', v = .ref a ∧ A = a :: A' ∧ H a = some (.lst vs) ∧ ownFs us vs H A'
  | .dct ks us, v, H, A => ∃ a vs A', v = .ref a ∧ A = a :: A' ∧ H a = some (.dK (ks.zip vs)) ∧ ks.length = us.length ∧ ownFs us vs H A'
  | .dcT ks us, v, H, A => ∃ a vs A', v = .ref a ∧ A = a :: A' ∧ H a = some (.dT (ks.zip vs)) ∧ ks.length = us.length ∧ ownFs us vs H A'
  | .non, v, H, A => A = [] ∧ im G rs B .non v H
  | .bl b, v, H, A => A = [] ∧ im G rs B (.bl b) v H
  | .int i, v, H, A => A = [] ∧ im G rs B (.int i) v H
  | .str x, v, H, A => A = [] ∧ im G rs B (.str x) v H
  | .tup us, v, H, A => A = [] ∧ im G rs B (.tup us) v H
  | .obj c ns us, v, H, A => A = [] ∧ im G rs B (.obj c ns us) v H
  | .dcN ks us, v, H, A => A = [] ∧ im G rs B (.dcN ks us) v H
  | .top x, v, H, A => A = [] ∧ im G rs B (.top x) v H
  | .frl us, v, H, A => A = [] ∧ im G rs B (.frl us) v H
  | .loc i, v, H, A => A = [] ∧ im G rs B (.loc i) v H
  | .exc c, v, H, A => A = [] ∧ im G rs B (.exc c) v H
  | .exo c f u, v, H, A => A = [] ∧ im G rs B (.exo c f u) v H
def ownFs : List U → List V → Hp → List Addr → Prop
  | [], vs, _, A => vs = [] ∧ A = []
  | u :: us, vs, H, A => ∃ v r A1 A2, vs = v :: r ∧ A = A1 ++ A2 ∧ ownF u v H A1 ∧ ownFs us r H A2
end
def ownC : U → V → Hp → List Addr → Prop
  | .obj c ns us, v, H, A => (∃ a dx vs A', v = .ref a ∧ A = a :: A' ∧ H a = some (.ins (G.at_ c) dx (ns.zip vs)) ∧ ns.length = us.length ∧ ownFs G rs B us vs H A')
  | u, v, H, A => ownF G rs B u v H A
end
section
variable {G : Cxt} {rs rs' : List Addr} {B B' : Bn} {H H' : Hp}
mutual
theorem ownF_mono (hk : ∀ u v, im G rs B u v H → im G rs' B' u v H') : ∀ (u : U) (v : V) (A : List Addr), (∀ a ∈ A, H' a = H a) → ownF G rs B u v H A → ownF G rs' B' u v H' A
  | .lst us, v, A, k, ⟨a, vs, A', e1, e2, h, q⟩ => ⟨a, vs, A', e1, e2, by rw [k a (by rw [e2]; exact List.mem_cons_self)]; exact h, ownFs_mono hk us vs A' (fun b m => k b (by rw [e2]; exact List.mem_cons_of_mem _ m)) q⟩
  | .dct ks us, v, A, k, ⟨a, vs, A', e1, e2, h, l, q⟩ => ⟨a, vs, A', e1, e2, by rw [k a (by rw [e2]; exact List.mem_cons_self)]; exact h, l, ownFs_mono hk us vs A' (fun b m => k b (by rw [e2]; exact List.mem_cons_of_mem _ m)) q⟩
  | .dcT ks us, v, A, k, ⟨a, vs, A', e1, e2, h, l, q⟩ => ⟨a, vs, A', e1, e2, by rw [k a (by rw [e2]; exact List.mem_cons_self)]; exact h, l, ownFs_mono hk us vs A' (fun b m => k b (by rw [e2]; exact List.mem_cons_of_mem _ m)) q⟩
  | .non, v, A, _, h => ⟨h.1, hk _ _ h.2⟩
  | .bl _, v, A, _, h => ⟨h.1, hk _ _ h.2⟩
  | .int _, v, A, _, h => ⟨h.1, hk _ _ h.2⟩
  | .str _, v, A, _, h => ⟨h.1, hk _ _ h.2⟩
  | .tup _, v, A, _, h => ⟨h.1, hk _ _ h.2⟩
  | .obj _ _ _, v, A, _, h => ⟨h.1, hk _ _ h.2⟩
  | .dcN _ _, v, A, _, h => ⟨h.1, hk _ _ h.2⟩
  | .top _, v, A, _, h => ⟨h.1, hk _ _ h.2⟩
  | .frl _, v, A, _, h => ⟨h.1, hk _ _ h.2⟩
  | .loc _, v, A, _, h => ⟨h.1, hk _ _ h.2⟩
  | .exc _, v, A, _, h => ⟨h.1, hk _ _ h.2⟩
  | .exo _ _ _, v, A, _, h => ⟨h.1, hk _ _ h.2⟩
theorem ownFs_mono (hk : ∀ u v, im G rs B u v H → im G rs' B' u v H') : ∀ (us : List U) (vs : List V) (A : List Addr), (∀ a ∈ A, H' a = H a) → ownFs G rs B us vs H A → ownFs G rs' B' us vs H' A
  | [], _, _, _, h => h
  | u :: us, _, A, k, ⟨v, r, A1, A2, e1, e2, h1, h2⟩ => ⟨v, r, A1, A2, e1, e2, ownF_mono hk u v A1 (fun a m => k a (by rw [e2]; exact List.mem_append_left _ m)) h1, ownFs_mono hk us r A2 (fun a m => k a (by rw [e2]; exact List.mem_append_right _ m)) h2⟩
end
theorem ownC_mono (hk : ∀ u v, im G rs B u v H → im G rs' B' u v H') : ∀ (u : U) (v : V) (A : List Addr), (∀ a ∈ A, H' a = H a) → ownC G rs B u v H A → ownC G rs' B' u v H' A
  | .obj c ns us, v, A, k, ⟨a, dx, vs, A', e1, e2, h, l, q⟩ => ⟨a, dx, vs, A', e1, e2, by rw [k a (by rw [e2]; exact List.mem_cons_self)]; exact h, l, ownFs_mono hk us vs A' (fun b m => k b (by rw [e2]; exact List.mem_cons_of_mem _ m)) q⟩
  | .lst us, v, A, k, h => ownF_mono hk (.lst us) v A k h
  | .dct ks us, v, A, k, h => ownF_mono hk (.dct ks us) v A k h
  | .dcT ks us, v, A, k, h => ownF_mono hk (.dcT ks us) v A k h
  | .dcN ks us, v, A, k, h => ownF_mono hk (.dcN ks us) v A k h
  | .non, v, A, k, h => ownF_mono hk .non v A k h
  | .bl b, v, A, k, h => ownF_mono hk (.bl b) v A k h
  | .int i, v, A, k, h => ownF_mono hk (.int i) v A k h
  | .str x, v, A, k, h => ownF_mono hk (.str x) v A k h
  | .tup us, v, A, k, h => ownF_mono hk (.tup us) v A k h
  | .top x, v, A, k, h => ownF_mono hk (.top x) v A k h
  | .frl us, v, A, k, h => ownF_mono hk (.frl us) v A k h
  | .loc i, v, A, k, h => ownF_mono hk (.loc i) v A k h
  | .exc i, v, A, k, h => ownF_mono hk (.exc i) v A k h
  | .exo c f u, v, A, k, h => ownF_mono hk (.exo c f u) v A k h
theorem ownFs_len : ∀ {us : List U} {vs : List V} {A : List Addr}, ownFs G rs B us vs H A → vs.length = us.length
  | [], _, _, h => by rw [h.1]; rfl
  | u :: us, _, _, ⟨v, r, A1, A2, e1, e2, h1, h2⟩ => by rw [e1, List.length_cons, List.length_cons, ownFs_len h2]
theorem ownFs_split : ∀ {us : List U} {j : Nat} {vs : List V} {A : List Addr} {u : U}, ownFs G rs B us vs H A → us[j]? = some u → ∃ v A1 A' A2, vs[j]? = some v ∧ A = A1 ++ (A' ++ A2) ∧ ownF G rs B u v H A' ∧
    ∀ (rs2 : List Addr) (B2 : Bn) H2 u2 A'2, (∀ u v, im G rs B u v H → im G rs2 B2 u v H2) → (∀ a, a ∈ A1 ∨ a ∈ A2 → H2 a = H a) → ownF G rs2 B2 u2 v H2 A'2 → ownFs G rs2 B2 (us.set j u2) vs H2 (A1 ++ (A'2 ++ A2))
  | [], _, _, _, _, _, e => by simp at e
  | x :: us, 0, _, _, u, ⟨v, r, A1, A2, e1, e2, h1, h2⟩, e => by
    simp at e; subst e e1 e2
    exact ⟨v, [], A1, A2, rfl, rfl, h1, fun rs2 B2 H2 u2 A'2 t k p => ⟨v, r, A'2, A2, rfl, rfl, p, ownFs_mono t us r A2 (fun a m => k a (.inr m)) h2⟩⟩
  | x :: us, j + 1, _, _, u, ⟨v, r, A1, A2, e1, e2, h1, h2⟩, e => by
    obtain ⟨v', B1, B', B2, f1, f2, f3, f4⟩ := ownFs_split (j := j) h2 (by simpa using e)
    subst e1 e2 f2
    refine ⟨v', A1 ++ B1, B', B2, by simpa using f1, by simp, f3, fun rs2 B2' H2 u2 A'2 t k p => ?_⟩
    exact ⟨v, r, A1, B1 ++ (A'2 ++ B2), rfl, by simp, ownF_mono t x v A1 (fun a m => k a (.inl (List.mem_append_left _ m))) h1, f4 rs2 B2' H2 u2 A'2 t (fun a z => k a (z.imp (fun z => List.mem_append_right _ z) id)) p⟩
end
abbrev Sto := List U
inductive Res (α : Type) where
  | ok (a : α) | er (e : U)
def M (α : Type) := Sto → Option (Res α × Sto)
namespace M
def ret {α : Type} (a : α) : M α := fun st => some (.ok a, st)
def fail {α : Type} : M α := fun _ => none
def bind {α β : Type} (w : M α) (f : α → M β) : M β := fun st => match w st with
  | some (.ok a, st') => f a st'
  | some (.er e, st') => some (.er e, st')
  | none => none
def o {α : Type} : Option α → M α
  | some a => ret a
  | none => fail
section
variable {α β γ : Type}
@[simp] theorem bind_ret (a : α) (f : α → M β) : bind (ret a) f = f a := rfl
@[simp] theorem bind_fail (f : α → M β) : bind fail f = fail := rfl
@[simp] theorem bind_bind (w : M α) (f : α → M β) (g : β → M γ) : bind (bind w f) g = bind w fun a => bind (f a) g := by
  funext st
  unfold bind
  cases w st with
  | none => rfl
  | some p =>
    obtain ⟨r, st'⟩ := p
    cases r <;> rfl
@[simp] theorem bind_ret' (w : M α) : bind w ret = w := by
  funext st
  unfold bind ret
  cases w st with
  | none => rfl
  | some p =>
    obtain ⟨r, st'⟩ := p
    cases r <;> rfl
@[simp] theorem o_some (a : α) : o (some a) = ret a := rfl
@[simp] theorem o_none : o (none : Option α) = fail := rfl
theorem bind_inv {w : M α} {f : α → M β} {st st' : Sto} {b : β} (h : bind w f st = some (.ok b, st')) : ∃ a st1, w st = some (.ok a, st1) ∧ f a st1 = some (.ok b, st') := by
  unfold bind at h
  cases e : w st with
  | none => rw [e] at h; cases h
  | some p =>
    obtain ⟨r, st1⟩ := p
    rw [e] at h
    cases r with
    | ok a => exact ⟨a, st1, rfl, h⟩
    | er _ => cases h
theorem o_inv {x : Option α} {b : α} {st st' : Sto} (h : o x st = some (.ok b, st')) : x = some b ∧ st' = st := by
  cases x with
  | none => cases h
  | some a => cases h; exact ⟨rfl, rfl⟩
end
end M
abbrev SA := List (Addr × List Addr)
def fl (as : SA) : List Addr := (as.map (·.2)).flatten
def rts (as : SA) : List Addr := as.map (·.1)
structure Go (as as' : SA) (H H' : Hp) : Prop where
  rb : RB (· ∈ fl as) H H'
  pre : ∀ (i : Nat) (a : Addr), (rts as)[i]? = some a → (rts as')[i]? = some a
  new : ∀ a ∈ fl as', a ∈ fl as ∨ H a = none
theorem rb_alive {B : Bn} {H H' : Hp} (r : RB B H H') {a : Addr} (h : H a ≠ none) : H' a ≠ none := by
  rcases Classical.em (B a) with b | b
  · exact r.ban a b h
  · cases e : H a with
    | none => exact absurd e h
    | some o => rw [r.keep a o b e]; exact fun z => nomatch z
theorem Go.refl (as : SA) (H : Hp) : Go as as H H := ⟨RB.refl H, fun _ _ h => h, fun _ h => .inl h⟩
theorem Go.trans {as as1 as2 : SA} {H H1 H2 : Hp} (a : Go as as1 H H1) (b : Go as1 as2 H1 H2) : Go as as2 H H2 := by
  refine ⟨⟨fun x o n h => ?_, fun x xs h => b.rb.tup _ _ (a.rb.tup _ _ h), fun x o u h => b.rb.frz _ _ _ (a.rb.frz _ _ _ h), fun x _ h => rb_alive b.rb (rb_alive a.rb h)⟩, fun i x h => b.pre i x (a.pre i x h), fun x h => ?_⟩
  · refine b.rb.keep x o (fun m => ?_) (a.rb.keep x o n h)
    rcases a.new x m with z | z
    · exact n z
    · rw [h] at z; cases z
  · rcases b.new x h with z | z
    · exact a.new x z
    · rcases Classical.em (H x = none) with q | q
      · exact .inr q
      · exact absurd z (rb_alive a.rb q)
theorem Go.of_ex {as : SA} {H H' : Hp} (e : Ex H H') : Go as as H H' := ⟨RB.of_ex e, fun _ _ h => h, fun _ h => .inl h⟩
theorem Go.alive {as as' : SA} {H H' : Hp} (g : Go as as' H H') {a : Addr} (h : H a ≠ none) : H' a ≠ none := rb_alive g.rb h
theorem Go.fresh {as as' : SA} {H H' : Hp} (g : Go as as' H H') {a : Addr} (h : H' a = none) : H a = none := by
  rcases Classical.em (H a = none) with q | q
  · exact q
  · exact absurd h (g.alive q)
structure Fr where
  G : Cxt
  B : Bn
  H0 : Hp
  as0 : SA
  R : SA → Sto → Hp → U → V → Prop
def noR : SA → Sto → Hp → U → V → Prop := fun _ _ _ _ _ => True
abbrev Os := List (Nat × List Addr)
def flo (os : Os) : List Addr := (os.map (·.2)).flatten
def ban (F : Fr) (os : Os) (as : SA) : Bn := fun a => F.B a ∨ a ∈ flo os ∨ a ∈ fl as
inductive SV where
  | im (u : U)
  | own (s : Sh) (u : U)
  | raw (v : V)
abbrev Dl := List (Option SV)
def SVok (F : Fr) (os : Os) (as : SA) (i : Nat) : SV → V → Hp → Prop
  | .im u, v, H => im F.G (rts as) (ban F os as) u v H
  | .own s u, v, H => ∃ A, (i, A) ∈ os ∧ ownD F.G (rts as) (ban F os as) s u v H A
  | .raw x, v, _ => v = x
def StOk (G : Cxt) (B : Bn) (rs : List Addr) : SA → Sto → Hp → Prop
  | [], [], _ => True
  | p :: as, u :: st, H => ownC G rs B u (.ref p.1) H p.2 ∧ StOk G B rs as st H
  | _, _, _ => False
structure SDo (F : Fr) (os : Os) (as : SA) (st : Sto) (γ : List (U × V)) (H : Hp) (σ : L2.St) (δ : Dl) : Prop where
  gh : ∀ p ∈ γ, im F.G (rts as) (ban F os as) p.1 p.2 H
  rel : Go F.as0 as F.H0 H
  ok : BOk (ban F os as) H
  nd : (flo os ++ fl as).Nodup
  ix : (os.map (·.1)).Nodup
  new : ∀ a ∈ flo os, F.H0 a = none
  nb : ∀ a, a ∈ flo os ∨ a ∈ fl as → ¬ F.B a
  sto : StOk F.G (ban F os as) (rts as) as st H
  len : σ.length = δ.length
  at_ : ∀ i s, δ[i]? = some (some s) → ∃ v, σ[i]? = some (some v) ∧ SVok F os as i s v H
section
variable {F : Fr} {os : Os} {as as' : SA} {st : Sto} {γ : List (U × V)} {H H' : Hp} {σ : L2.St} {δ : Dl} {v : V} {u : U} {i : Nat}
theorem mem_flo {i : Nat} {A : List Addr} (m : (i, A) ∈ os) {a : Addr} (h : a ∈ A) : a ∈ flo os := List.mem_flatten.mpr ⟨A, List.mem_map_of_mem (f := (·.2)) m, h⟩
theorem mem_fl {p : Addr × List Addr} (m : p ∈ as) {a : Addr} (h : a ∈ p.2) : a ∈ fl as := List.mem_flatten.mpr ⟨p.2, List.mem_map_of_mem (f := (·.2)) m, h⟩
theorem im_go (g : Go as as' H H') {u : U} {v : V} (h : im F.G (rts as) (ban F os as) u v H) : im F.G (rts as') (ban F os as') u v H' := by
  have h1 : im F.G (rts as) (UX.ban F os as') u v H := im_sub (fun a n b => by
    rcases b with b | b | b
    · exact .inl b
    · exact .inr (.inl b)
    · rcases g.new a b with z | z
      · exact .inr (.inr z)
      · exact absurd z n) _ _ h
  have h2 := im_rs g.pre _ _ h1
  have h3 : im F.G (rts as') (fun a => UX.ban F os as' a ∨ a ∈ fl as) u v H := im_sub (B := UX.ban F os as) (fun a n b => by
    rcases b with (b | b | b) | b
    · exact .inl b
    · exact .inr (.inl b)
    · rcases g.new a b with z | z
      · exact .inr (.inr z)
      · exact absurd z n
    · exact .inr (.inr b)) _ _ (im_rs g.pre _ _ h)
  have h4 := im_st (g.rb.sub fun a m => Or.inr m) _ _ h3
  exact im_sub (fun a _ b => .inl b) _ _ h4
theorem imAll_go (g : Go as as' H H') : ∀ {us : List U} {vs : List V}, imAll F.G (rts as) (ban F os as) us vs H → imAll F.G (rts as') (ban F os as') us vs H'
  | [], _, h => h
  | u :: us, _, ⟨v, w, e, h1, h2⟩ => ⟨v, w, e, im_go g h1, imAll_go g h2⟩
theorem sqT_go (g : Go as as' H H') {a : Addr} {xs : List V} (h : H a = some (.tup xs)) : H' a = some (.tup xs) := g.rb.tup _ _ h
theorem own_go (g : Go as as' H H') {s : Sh} {u : U} {v : V} {A : List Addr} (h : ownD F.G (rts as) (ban F os as) s u v H A) (k : ∀ a ∈ A, a ∉ fl as) (al : ∀ a ∈ A, H a ≠ none) : ownD F.G (rts as') (ban F os as') s u v H' A :=
  own_mono (fun _ _ h => im_go g h) (fun _ _ h => sqT_go g h) s u v A (fun a m => by
    cases e : H a with
    | none => exact absurd e (al a m)
    | some o => exact g.rb.keep a o (k a m) e) h
theorem SVok.go (g : Go as as' H H') (nd : (flo os ++ fl as).Nodup) (ok : BOk (ban F os as) H) : ∀ {s : SV}, SVok F os as i s v H → SVok F os as' i s v H'
  | .im u, h => im_go g h
  | .own s u, ⟨A, m, h⟩ => ⟨A, m, own_go g h (fun a z => fun q => (List.nodup_append.mp nd).2.2 a (mem_flo m z) a q rfl) fun a z => ok a (.inr (.inl (mem_flo m z)))⟩
  | .raw x, h => h
theorem SDo.go {st' : Sto} (s : SDo F os as st γ H σ δ) (g : Go as as' H H') (nd' : (fl as').Nodup) (sto' : StOk F.G (ban F os as') (rts as') as' st' H') (al : ∀ a ∈ fl as', H' a ≠ none) : SDo F os as' st' γ H' σ δ := by
  have dis : ∀ a ∈ flo os, a ∉ fl as' := fun a m q => by
    rcases g.new a q with z | z
    · exact (List.nodup_append.mp s.nd).2.2 a m a z rfl
    · exact s.ok a (.inr (.inl m)) z
  refine ⟨fun p m => im_go g (s.gh p m), s.rel.trans g, fun a b => ?_, List.nodup_append.mpr ⟨(List.nodup_append.mp s.nd).1, nd', fun a m b q e => dis a m (e ▸ q)⟩, s.ix, s.new, fun a z => ?_, sto', s.len, fun i x e => ?_⟩
  · rcases b with b | b | b
    · exact g.alive (s.ok a (.inl b))
    · exact g.alive (s.ok a (.inr (.inl b)))
    · exact al a b
  · rcases z with z | z
    · exact s.nb a (.inl z)
    · rcases g.new a z with q | q
      · exact s.nb a (.inr q)
      · exact fun b => s.ok a (.inl b) q
  · obtain ⟨v, h1, h2⟩ := s.at_ i x e
    exact ⟨v, h1, h2.go g s.nd s.ok⟩
theorem StOk.mono {G : Cxt} {B B' : Bn} {rs rs' : List Addr} (hk : ∀ u v, im G rs B u v H → im G rs' B' u v H') (ht : ∀ a xs, H a = some (.tup xs) → H' a = some (.tup xs)) : ∀ {as : SA} {st : Sto}, (∀ a ∈ fl as, H' a = H a) → StOk G B rs as st H → StOk G B' rs' as st H'
  | [], [], _, _ => trivial
  | p :: as, s :: st, k, ⟨h1, h2⟩ => ⟨ownC_mono hk _ _ _ (fun a m => k a (mem_fl (as := p :: as) List.mem_cons_self m)) h1, StOk.mono hk ht (fun a m => k a (List.mem_append_right _ m)) h2⟩
theorem StOk.len {G : Cxt} {B : Bn} {rs : List Addr} : ∀ {as : SA} {st : Sto}, StOk G B rs as st H → as.length = st.length
  | [], [], _ => rfl
  | _ :: _, _ :: _, h => by rw [List.length_cons, List.length_cons, StOk.len h.2]
theorem SDo.ex (s : SDo F os as st γ H σ δ) (e : Ex H H') : SDo F os as st γ H' σ δ :=
  s.go (Go.of_ex e) (List.nodup_append.mp s.nd).2.1 (StOk.mono (fun _ _ h => im_st (RB.of_ex e) _ _ h) (fun _ _ h => e _ _ h) (fun a m => by
    cases q : H a with
    | none => exact absurd q (s.ok a (.inr (.inr m)))
    | some o => exact e a o q) s.sto) fun a m => (Go.of_ex (as := as) e).alive (s.ok a (.inr (.inr m)))
theorem SDo.notban {p : Addr} (s : SDo F os as st γ H σ δ) (h : H p = none) : ¬ ban F os as p := fun b => s.ok p b h
theorem SDo.get (s : SDo F os as st γ H σ δ) {x : SV} (e : δ[i]? = some (some x)) : ∃ v, σ[i]? = some (some v) ∧ SVok F os as i x v H := s.at_ i x e
theorem getElem?_lt {α : Type} {l : List α} {x : α} (e : l[i]? = some x) : i < l.length := by
  rcases Nat.lt_or_ge i l.length with z | z
  · exact z
  · rw [List.getElem?_eq_none z] at e; cases e
theorem SDo.set (s : SDo F os as st γ H σ δ) {x : SV} (h : SVok F os as i x v H) : SDo F os as st γ H (σ.set i (some v)) (δ.set i (some x)) := by
  refine ⟨s.gh, s.rel, s.ok, s.nd, s.ix, s.new, s.nb, s.sto, by rw [List.length_set, List.length_set, s.len], fun j q e => ?_⟩
  by_cases hj : i = j
  · subst hj
    have hl : i < δ.length := by have := getElem?_lt e; rwa [List.length_set] at this
    rw [List.getElem?_set_self hl] at e
    cases e
    exact ⟨v, List.getElem?_set_self (by rw [s.len]; exact hl), h⟩
  · rw [List.getElem?_set_ne hj] at e
    obtain ⟨w, h1, h2⟩ := s.at_ j q e
    exact ⟨w, by rw [List.getElem?_set_ne hj]; exact h1, h2⟩
theorem SDo.unset (s : SDo F os as st γ H σ δ) {o : Option V} : SDo F os as st γ H (σ.set i o) (δ.set i none) := by
  refine ⟨s.gh, s.rel, s.ok, s.nd, s.ix, s.new, s.nb, s.sto, by rw [List.length_set, List.length_set, s.len], fun j q e => ?_⟩
  by_cases hj : i = j
  · subst hj
    have hl : i < δ.length := by have := getElem?_lt e; rwa [List.length_set] at this
    rw [List.getElem?_set_self hl] at e
    cases e
  · rw [List.getElem?_set_ne hj] at e
    obtain ⟨w, h1, h2⟩ := s.at_ j q e
    exact ⟨w, by rw [List.getElem?_set_ne hj]; exact h1, h2⟩
def Weak : Dl → Dl → Prop
  | [], [] => True
  | _ :: a, none :: b => Weak a b
  | x :: a, y :: b => x = y ∧ Weak a b
  | _, _ => False
theorem Weak.len : ∀ {a b : Dl}, Weak a b → a.length = b.length
  | [], [], _ => rfl
  | _ :: a, none :: b, h => by rw [List.length_cons, List.length_cons, Weak.len (a := a) (b := b) h]
  | _ :: a, some _ :: b, h => by rw [List.length_cons, List.length_cons, Weak.len (a := a) (b := b) h.2]
  | [], _ :: _, h => h.elim
  | _ :: _, [], h => by cases h
theorem Weak.get : ∀ {a b : Dl} {i : Nat} {p : SV}, Weak a b → b[i]? = some (some p) → a[i]? = some (some p)
  | [], [], _, _, _, e => by simp at e
  | x :: a, none :: b, 0, p, _, e => by simp at e
  | x :: a, none :: b, i + 1, p, h, e => by
    have := Weak.get (a := a) (b := b) (i := i) (p := p) h (by simpa using e)
    simpa using this
  | x :: a, some y :: b, 0, p, h, e => by
    have e1 : y = p := by simpa using e
    rw [show x = some y from h.1, e1]; rfl
  | x :: a, some y :: b, i + 1, p, h, e => by
    have := Weak.get (a := a) (b := b) (i := i) (p := p) h.2 (by simpa using e)
    simpa using this
  | [], _ :: _, _, _, h, _ => h.elim
  | _ :: _, [], _, _, h, _ => by cases h
theorem SDo.weak {δ' : Dl} (s : SDo F os as st γ H σ δ) (w : Weak δ δ') : SDo F os as st γ H σ δ' := ⟨s.gh, s.rel, s.ok, s.nd, s.ix, s.new, s.nb, s.sto, s.len.trans w.len, fun i p e => s.at_ i p (w.get e)⟩
def rd (F : Fr) (os : Os) (as : SA) : U → V → Hp → Prop
  | .lst us, v, H => ∃ a vs, v = .ref a ∧ ¬ ban F [] as a ∧ H a = some (.lst vs) ∧ imAll F.G (rts as) (ban F os as) us vs H
  | .dct ks us, v, H => ∃ a vs, v = .ref a ∧ ¬ ban F [] as a ∧ Rd H a (.dK (ks.zip vs)) ∧ ks.length = us.length ∧ imAll F.G (rts as) (ban F os as) us vs H
  | .dcT ks us, v, H => ∃ a vs, v = .ref a ∧ ¬ ban F [] as a ∧ Rd H a (.dT (ks.zip vs)) ∧ ks.length = us.length ∧ imAll F.G (rts as) (ban F os as) us vs H
  | .dcN ks us, v, H => ∃ a kvs, v = .ref a ∧ ¬ ban F [] as a ∧ Rd H a (DNo a kvs) ∧ nk8s ks = some (kvs.map (·.1)) ∧ imAll F.G (rts as) (ban F os as) ks (nkA kvs) H ∧ imAll F.G (rts as) (ban F os as) us (nkV kvs) H
  | .obj c ns us, v, H => ∃ a dx vs, v = .ref a ∧ ¬ ban F [] as a ∧ H a = some (.ins (F.G.at_ c) dx (ns.zip vs)) ∧ ns.length = us.length ∧ imAll F.G (rts as) (ban F os as) us vs H
  | u, v, H => im F.G (rts as) (ban F os as) u v H
theorem ban_nil {a : Addr} (n : ¬ ban F os as a) : ¬ ban F [] as a := fun b => n (b.elim .inl fun b => b.elim (fun z => nomatch z) fun z => .inr (.inr z))
theorem rd_of_im : ∀ {u : U}, im F.G (rts as) (ban F os as) u v H → rd F os as u v H
  | .non, h | .bl _, h | .int _, h | .str _, h | .tup _, h | .top _, h | .frl _, h | .loc _, h | .exc _, h | .exo _ _ _, h => h
  | .lst us, ⟨a, vs, e, n, h⟩ => ⟨a, vs, e, ban_nil n, h⟩
  | .dct ks us, ⟨a, vs, e, n, h⟩ => ⟨a, vs, e, ban_nil n, h⟩
  | .dcT ks us, ⟨a, vs, e, n, h⟩ => ⟨a, vs, e, ban_nil n, h⟩
  | .dcN ks us, ⟨a, vs, e, n, h⟩ => ⟨a, vs, e, ban_nil n, h⟩
  | .obj c ns us, ⟨a, dx, vs, e, n, h⟩ => ⟨a, dx, vs, e, ban_nil n, h⟩
abbrev noB : Bn := fun _ => False
theorem sub0 {B : Bn} {G : Cxt} {rs : List Addr} {u : U} (h : im G rs B u v H) : im G rs noB u v H := im_sub (B := B) (fun _ _ (z : False) => False.elim z) u v h
theorem imAll_none {G : Cxt} {rs : List Addr} {B : Bn} {us : List U} {vs : List V} (h : imAll G rs B us vs H) : imAll G rs noB us vs H := imAll_sub (B := B) (fun _ _ (z : False) => False.elim z) us vs h
theorem rd_im0 : ∀ {u : U}, rd F os as u v H → im F.G (rts as) noB u v H
  | .non, h | .bl _, h | .int _, h | .str _, h | .tup _, h | .top _, h | .frl _, h | .loc _, h | .exc _, h | .exo _ _ _, h => sub0 (B := ban F os as) h
  | .lst us, ⟨a, vs, e, _, h, q⟩ => ⟨a, vs, e, fun z => z, h, imAll_none q⟩
  | .dct ks us, ⟨a, vs, e, _, h, l, q⟩ => ⟨a, vs, e, fun z => z, h, l, imAll_none q⟩
  | .dcT ks us, ⟨a, vs, e, _, h, l, q⟩ => ⟨a, vs, e, fun z => z, h, l, imAll_none q⟩
  | .dcN ks us, ⟨a, vs, e, _, h, l, q1, q⟩ => ⟨a, vs, e, fun z => z, h, l, imAll_none q1, imAll_none q⟩
  | .obj c ns us, ⟨a, dx, vs, e, _, h, l, q⟩ => ⟨a, dx, vs, e, fun z => z, h, l, imAll_none q⟩
theorem rd_dp {d : PyData} (h : rd F os as u v H) (e : pd u = some d) : Dp F.G.K H v d := im_dp _ _ _ (rd_im0 h) e
theorem Go.off (g : Go as as' H H') {a : Addr} (n : ¬ ban F [] as a) (h : H a ≠ none) : ¬ ban F [] as' a := fun m => by
  rcases m with z | z | z
  · exact n (.inl z)
  · cases z
  · rcases g.new a z with z | z
    · exact n (.inr (.inr z))
    · exact h z
theorem nfl {a : Addr} (n : ¬ ban F [] as a) : a ∉ fl as := fun m => n (.inr (.inr m))
theorem rd_go (g : Go as as' H H') : ∀ {u : U}, rd F os as u v H → rd F os as' u v H'
  | .non, h | .bl _, h | .int _, h | .str _, h | .tup _, h | .top _, h | .frl _, h | .loc _, h | .exc _, h | .exo _ _ _, h => im_go (F := F) (os := os) g h
  | .lst us, ⟨a, vs, e, n, h, q⟩ => ⟨a, vs, e, g.off n (by rw [h]; exact fun z => nomatch z), g.rb.keep _ _ (nfl n) h, imAll_go g q⟩
  | .dct ks us, ⟨a, vs, e, n, h, l, q⟩ => ⟨a, vs, e, g.off n (rd_ne h), (kd_of g.rb).dK _ _ (nfl n) h, l, imAll_go g q⟩
  | .dcT ks us, ⟨a, vs, e, n, h, l, q⟩ => ⟨a, vs, e, g.off n (rd_ne h), (kd_of g.rb).dT _ _ (nfl n) h, l, imAll_go g q⟩
  | .dcN ks us, ⟨a, vs, e, n, h, l, q1, q⟩ => ⟨a, vs, e, g.off n (rd_ne h), (kd_of g.rb).dN _ _ _ (nfl n) h, l, imAll_go g q1, imAll_go g q⟩
  | .obj c ns us, ⟨a, dx, vs, e, n, h, l, q⟩ => ⟨a, dx, vs, e, g.off n (by rw [h]; exact fun z => nomatch z), g.rb.keep _ _ (nfl n) h, l, imAll_go g q⟩
end
section
variable (F : Fr)
abbrev PP (α : Type) := Os → SA → Hp → α → V → Hp → Prop
def EvP {α : Type} (P : PP α) (te : TE) (δ : Dl) (w : M α) : Prop := ∀ os as st γ σ H a st', SDo F os as st γ H σ δ → w st = some (.ok a, st') → ∀ QQ : VK, (∀ v H' as', Go as as' H H' → SDo F os as' st' γ H' σ δ → P os as' H a v H' → QQ v H') → te σ H QQ
def EvW : TE → Dl → M U → Prop := EvP F fun os as _ u v H => im F.G (rts as) (ban F os as) u v H
def EvR : TE → Dl → M U → Prop := EvP F fun os as _ u v H => rd F os as u v H
def EvN (s : Sh) (te : TE) (δ : Dl) (w : M U) : Prop := ∀ os as st γ σ H a st', SDo F os as st γ H σ δ → w st = some (.ok a, st') → ∀ QQ : VK, (∀ v H' as' A, Go as as' H H' → (∀ k, k ∉ os.map (·.1) → SDo F ((k, A) :: os) as' st' γ H' σ δ) → ownD F.G (rts as') (ban F ((0, A) :: os) as') s a v H' A → (∀ a ∈ A, H a = none) → QQ v H') → te σ H QQ
def EvT (tt : TT) (δ : Dl) (w : M Bool) : Prop := ∀ os as st γ σ H a st', SDo F os as st γ H σ δ → w st = some (.ok a, st') → ∀ QQ : Bool → Hp → Prop, (∀ H' as', Go as as' H H' → SDo F os as' st' γ H' σ δ → QQ a H') → tt σ H QQ
def EvO (to : TO) (δ : Dl) (w : M (Option Int)) : Prop := ∀ os as st γ σ H a st', SDo F os as st γ H σ δ → w st = some (.ok a, st') → ∀ QQ : Option Int → Hp → Prop, (∀ H' as', Go as as' H H' → SDo F os as' st' γ H' σ δ → QQ a H') → to σ H QQ
def EvA (P : Os → SA → List U → List V → Hp → Prop) (ta : TA) (δ : Dl) (w : M (List U)) : Prop := ∀ os as st γ σ H us st', SDo F os as st γ H σ δ → w st = some (.ok us, st') → ∀ QQ : List V → Hp → Prop, (∀ vs H' as', Go as as' H H' → SDo F os as' st' γ H' σ δ → P os as' us vs H' → QQ vs H') → ta σ H QQ
def EvAW : TA → Dl → M (List U) → Prop := EvA F fun os as us vs H => imAll F.G (rts as) (ban F os as) us vs H
end
inductive Out (S L : Type) where
  | nx (s : S) | rt (u : U) | bk (l : L) | ct (l : L)
structure Rt (F : Fr) (as : SA) (st : Sto) (H : Hp) (u : U) (v : V) : Prop where
  rel : Go F.as0 as F.H0 H
  ok : BOk (ban F [] as) H
  nd : (fl as).Nodup
  nb : ∀ a ∈ fl as, ¬ F.B a
  sto : StOk F.G (ban F [] as) (rts as) as st H
  im : im F.G (rts as) (ban F [] as) u v H
  r : F.R as st H u v
def Post (F : Fr) {S L : Type} (D : Ends) (γ : List (U × V)) (st : Sto) (δn : S → Dl) (δl : L → Dl) : Out S L → Prop
  | .nx s => ∀ os as σ H, SDo F os as st γ H σ (δn s) → D.nx σ H
  | .rt u => ∀ as v H, Rt F as st H u v → D.rt v H
  | .bk l => ∀ os as σ H, SDo F os as st γ H σ (δl l) → D.bk σ H
  | .ct l => ∀ os as σ H, SDo F os as st γ H σ (δl l) → D.ct σ H
def Blk (F : Fr) {S L : Type} (t : TS) (δ : Dl) (w : M (Out S L)) (δn : S → Dl) (δl : L → Dl) : Prop := ∀ D os as st γ σ H o st', SDo F os as st γ H σ δ → w st = some (.ok o, st') → Post F D γ st' δn δl o → t D σ H
end UX
namespace UX
open PySem PySem.Spec PyProof.Rows L2
open EL (Ex RB BOk Bn TK rAddU rMulU rSlU rEqU rNeU rLtU rLenQ rTupQ rListQ rReprD cut)
def addU : U → U → Option U
  | .int i, .int j => some (.int (i + j))
  | .tup a, .tup b => if a.length + b.length ≤ sizeLine then some (.tup (a ++ b)) else none
  | .lst a, .lst b => if a.length + b.length ≤ sizeLine then some (.lst (a ++ b)) else none
  | .str a, .str b => if a.length + b.length ≤ sizeLine then some (.str (a ++ b)) else none
  | _, _ => none
def subU : U → U → Option U
  | .int i, .int j => some (.int (i - j))
  | _, _ => none
instance (i j : Int) : Decidable (CMul i j) := by unfold CMul; infer_instance
instance (i j : Int) : Decidable (CDivN i j) := by unfold CDivN; infer_instance
instance (i j : Int) : Decidable (CPow i j) := by unfold CPow; infer_instance
def mulU : U → U → Option U
  | .int i, .int j => if CMul i j then some (.int (i * j)) else none
  | .tup a, .int k => if 0 ≤ k ∧ k ≤ 1000 ∧ a.length ≤ 1000 then some (.tup (List.replicate k.toNat a).flatten) else none
  | .lst a, .int k => if 0 ≤ k ∧ k ≤ 1000000 ∧ a.length * k.toNat ≤ sizeLine then some (.lst (List.replicate k.toNat a).flatten) else none
  | _, _ => none
def modU : U → U → Option U
  | .int i, .int j => if j ≠ 0 then some (.int (i.fmod j)) else none
  | _, _ => none
def fdivU : U → U → Option U
  | .int i, .int j => if CDivN i j then some (.int (i.fdiv j)) else none
  | _, _ => none
def powU : U → U → Option U
  | .int i, .int j => if CPow i j then some (.int (i ^ j.toNat)) else none
  | _, _ => none
def negU : U → Option U
  | .int i => some (.int (-i))
  | _ => none
def leU : U → U → Option U
  | .int i, .int j => some (.bl (decide (i ≤ j)))
  | _, _ => none
def gtU : U → U → Option U
  | .int i, .int j => some (.bl (decide (j < i)))
  | _, _ => none
def geU : U → U → Option U
  | .int i, .int j => some (.bl (decide (j ≤ i)))
  | _, _ => none
def notNone : PyData → Bool
  | .none => false
  | _ => true
theorem notNone_ne {d : PyData} (h : notNone d = true) : d ≠ .none := fun e => by rw [e] at h; cases h
def ltU : U → U → Option U
  | .int i, .int j => some (.bl (decide (i < j)))
  | a, b => match pd a, pd b with
    | some d, some e => if PySem.W.alike d e = true ∧ notNone d = true ∧ d.depth ≤ 64 then some (.bl (PySem.W.dataLt d e)) else none
    | _, _ => none
def eqD (a b : U) : Option U := match pd a, pd b with
  | some d, some e => if SeqAt.shaped d = true ∧ SeqAt.shaped e = true then some (.bl (PyData.eqv d e)) else none
  | _, _ => none
def neD (a b : U) : Option U := match pd a, pd b with
  | some d, some e => if SeqAt.shaped d = true ∧ SeqAt.shaped e = true then some (.bl (!PyData.eqv d e)) else none
  | _, _ => none
def eqU : U → U → Option U
  | .str x, .str y => some (.bl (decide (x = y)))
  | a, b => eqD a b
def neU : U → U → Option U
  | .str x, .str y => some (.bl (!decide (x = y)))
  | a, b => neD a b
def isNU : U → Bool
  | .non => true
  | _ => false
def ixU : U → U → Option U
  | .lst us, .int i => atI us i
  | .tup us, .int i => atI us i
  | .frl us, .int i => atI us i
  | _, _ => none
def slU : U → Option Int → Option Int → Option U
  | .lst us, lo, hi => some (.lst (cut us lo hi))
  | .tup us, lo, hi => some (.tup (cut us lo hi))
  | .frl us, lo, hi => some (.lst (cut us lo hi))
  | _, _, _ => none
def lenU : U → Option U
  | .lst us => some (.int us.length)
  | .tup us => some (.int us.length)
  | .frl us => some (.int us.length)
  | _ => none
def tupleU : U → Option U
  | .lst us => some (.tup us)
  | .tup us => some (.tup us)
  | _ => none
def listU : U → Option U
  | .lst us => some (.lst us)
  | .tup us => some (.lst us)
  | _ => none
def boolsU : List U → Option (List Bool)
  | [] => some []
  | .bl b :: r => (boolsU r).map (b :: ·)
  | _ => none
def allU : U → Option U
  | .lst us => (boolsU us).map fun bs => .bl (bs.all id)
  | _ => none
def tyU : U → Option String
  | .non => some "NoneType"
  | .bl _ => some "bool"
  | .int _ => some "int"
  | .str _ => some "str"
  | .tup _ => some "tuple"
  | .lst _ => some "list"
  | .dct _ _ => some "dict"
  | _ => none
def subT (a b : String) : Bool := a == b || (a == "bool" && b == "int")
def isiU (u : U) (T : String) : Option U := match tyU u with
  | some t => if ["int", "bool", "str", "tuple", "list", "dict"].contains T then some (.bl (subT t T)) else none
  | none => none
theorem kit_all : (["NoneType", "bool", "int", "str", "tuple", "list", "dict"].all fun a => ["int", "bool", "str", "tuple", "list", "dict"].all fun b => kitB a b == some (subT a b)) = true := by decide +kernel
theorem kit_is {u : U} {t T : String} (h : tyU u = some t) (hT : ["int", "bool", "str", "tuple", "list", "dict"].contains T = true) : kitB t T = some (subT t T) := by
  have h1 : t ∈ ["NoneType", "bool", "int", "str", "tuple", "list", "dict"] := by
    cases u <;> simp [tyU] at h <;> subst h <;> decide
  have h2 := List.all_eq_true.mp (List.all_eq_true.mp kit_all t h1) T (by simpa using hT)
  simpa using h2
def notU : U → Option U
  | .bl b => some (.bl (!b))
  | _ => none
def boolU : U → Option Bool
  | .bl b => some b
  | _ => none
def intU : U → Option Int
  | .int i => some i
  | _ => none
section
variable {F : Fr}
def OpOk (F : Fr) (r : R2) (f : U → U → Option U) : Prop := ∀ os as H a b c x y, BOk (ban F os as) H → rd F os as a x H → rd F os as b y H → f a b = some c → ∀ QQ : VK, (∀ v H', Ex H H' → im F.G (rts as) (ban F os as) c v H' → QQ v H') → r x y H QQ
def Op1Ok (F : Fr) (r : List V → Hp → VK → Prop) (f : U → Option U) : Prop := ∀ os as H a c x, BOk (ban F os as) H → rd F os as a x H → f a = some c → ∀ QQ : VK, (∀ v H', Ex H H' → im F.G (rts as) (ban F os as) c v H' → QQ v H') → r [x] H QQ
theorem op_I0 {g : Int → Int → V} {f : U → U → Option U} (hf : ∀ a b c, f a b = some c → ∃ i j, a = .int i ∧ b = .int j ∧ ∀ os as H, im F.G (rts as) (ban F os as) c (g i j) H) : OpOk F (rI0 g) f := fun os as H a b c x y ok ha hb e QQ k => by
  obtain ⟨i, j, rfl, rfl, h⟩ := hf a b c e
  exact ⟨i, j, ha, hb, k _ H (Ex.refl H) (h os as H)⟩
theorem ok_sub : OpOk F (rI0 fun i j => .int (i - j)) subU := op_I0 fun a b c e => by
  cases a <;> cases b <;> simp [subU] at e
  subst e; exact ⟨_, _, rfl, rfl, fun _ _ _ => rfl⟩
theorem ok_le : OpOk F (rI0 fun i j => .bl (decide (i ≤ j))) leU := op_I0 fun a b c e => by
  cases a <;> cases b <;> simp [leU] at e
  subst e; exact ⟨_, _, rfl, rfl, fun _ _ _ => rfl⟩
theorem ok_gt : OpOk F (rI0 fun i j => .bl (decide (j < i))) gtU := op_I0 fun a b c e => by
  cases a <;> cases b <;> simp [gtU] at e
  subst e; exact ⟨_, _, rfl, rfl, fun _ _ _ => rfl⟩
theorem ok_ge : OpOk F (rI0 fun i j => .bl (decide (j ≤ i))) geU := op_I0 fun a b c e => by
  cases a <;> cases b <;> simp [geU] at e
  subst e; exact ⟨_, _, rfl, rfl, fun _ _ _ => rfl⟩
theorem ok_mod : OpOk F (rI (fun _ j => j ≠ 0) fun i j => .int (i.fmod j)) modU := fun os as H a b c x y ok ha hb e QQ k => by
  cases a <;> cases b <;> simp [modU] at e
  rename_i i j
  obtain ⟨h0, rfl⟩ := e
  exact ⟨i, j, ha, hb, h0, k _ H (Ex.refl H) rfl⟩
theorem ok_fdiv : OpOk F (rI CDivN fun i j => .int (i.fdiv j)) fdivU := fun os as H a b c x y ok ha hb e QQ k => by
  cases a <;> cases b <;> simp [fdivU] at e
  rename_i i j
  obtain ⟨h0, rfl⟩ := e
  exact ⟨i, j, ha, hb, h0, k _ H (Ex.refl H) rfl⟩
theorem ok_pow : OpOk F (rI CPow fun i j => .int (i ^ j.toNat)) powU := fun os as H a b c x y ok ha hb e QQ k => by
  cases a <;> cases b <;> simp [powU] at e
  rename_i i j
  obtain ⟨h0, rfl⟩ := e
  exact ⟨i, j, ha, hb, h0, k _ H (Ex.refl H) rfl⟩
theorem ok_add : OpOk F (rAddU F.G.K) addU := fun os as H a b c x y ok ha hb e QQ k => by
  cases a <;> cases b <;> simp [addU] at e
  · subst e; exact .inl ⟨_, _, ha, hb, k _ H (Ex.refl H) rfl⟩
  · obtain ⟨hl, rfl⟩ := e; exact .inr (.inr (.inr ⟨_, _, ha, hb, hl, k _ H (Ex.refl H) rfl⟩))
  · obtain ⟨hl, rfl⟩ := e
    rename_i us vs
    obtain ⟨a, xs, rfl, ta, qa⟩ := ha
    obtain ⟨b, ys, rfl, tb, qb⟩ := hb
    refine .inr (.inl ⟨a, b, xs, ys, rfl, rfl, EL.sqT_of ta, EL.sqT_of tb, by rw [imAll_len qa, imAll_len qb]; exact hl, fun z => ?_, fun _ z => ?_, fun _ _ p hp => ?_⟩)
    · subst z
      have : us = [] := List.eq_nil_of_length_eq_zero (imAll_len qa).symm
      subst this
      exact k _ H (Ex.refl H) ⟨b, ys, rfl, tb, qb⟩
    · subst z
      have : vs = [] := List.eq_nil_of_length_eq_zero (imAll_len qb).symm
      subst this
      exact k _ H (Ex.refl H) (by rw [List.append_nil]; exact ⟨a, xs, rfl, ta, qa⟩)
    · exact k _ _ (Ex.new hp) ⟨p, xs ++ ys, rfl, upd_same, imAll_st (RB.of_ex (Ex.new hp)) _ _ (imAll_append qa qb)⟩
  · obtain ⟨hl, rfl⟩ := e
    obtain ⟨a, xs, rfl, na, ta, qa⟩ := ha
    obtain ⟨b, ys, rfl, nb, tb, qb⟩ := hb
    exact .inr (.inr (.inl ⟨a, b, xs, ys, rfl, rfl, ta, tb, by rw [imAll_len qa, imAll_len qb]; exact hl, fun p hp => k _ _ (Ex.new hp) ⟨p, xs ++ ys, rfl, fun z => ok p z hp, upd_same, imAll_st (RB.of_ex (Ex.new hp)) _ _ (imAll_append qa qb)⟩⟩))
theorem ok_mul : OpOk F (rMulU F.G.K) mulU := fun os as H a b c x y ok ha hb e QQ k => by
  cases a <;> cases b <;> simp [mulU] at e
  · obtain ⟨hc, rfl⟩ := e; exact .inl ⟨_, _, ha, hb, hc, k _ H (Ex.refl H) rfl⟩
  · obtain ⟨⟨h0, h1, hl⟩, rfl⟩ := e
    rename_i us i
    obtain ⟨a, xs, rfl, ta, qa⟩ := ha
    refine .inr (.inl ⟨a, i, xs, rfl, hb, EL.sqT_of ta, h0, h1, by rw [imAll_len qa]; exact hl, fun z => k _ H (Ex.refl H) ⟨a, xs, rfl, ta, ?_⟩, fun _ _ p hp => k _ _ (Ex.new hp) ⟨p, _, rfl, upd_same, imAll_st (RB.of_ex (Ex.new hp)) _ _ (imAll_rep qa _)⟩⟩)
    rcases z with z | z
    · subst z
      have : us = [] := List.eq_nil_of_length_eq_zero (imAll_len qa).symm
      subst this
      rw [show (List.replicate i.toNat ([] : List U)).flatten = [] by simp]
      exact qa
    · subst z
      rw [show (List.replicate (1 : Int).toNat us).flatten = us by simp]
      exact qa
  · obtain ⟨⟨h0, h1, hl⟩, rfl⟩ := e
    rename_i us i
    obtain ⟨a, xs, rfl, na, ta, qa⟩ := ha
    exact .inr (.inr ⟨a, i, xs, rfl, hb, ta, by omega, by omega, by rw [imAll_len qa]; exact hl, fun p hp => k _ _ (Ex.new hp) ⟨p, _, rfl, fun z => ok p z hp, upd_same, imAll_st (RB.of_ex (Ex.new hp)) _ _ (imAll_rep qa _)⟩⟩)
theorem ok_eqD : OpOk F (rEqU F.G.K) eqD := fun os as H a b c x y ok ha hb e QQ k => by
  unfold eqD at e
  cases e1 : pd a with
  | none => rw [e1] at e; cases e
  | some d =>
    cases e2 : pd b with
    | none => rw [e1, e2] at e; cases e
    | some d' =>
      rw [e1, e2] at e
      simp at e
      obtain ⟨⟨h1, h2⟩, rfl⟩ := e
      exact .inl ⟨d, d', rd_dp ha e1, rd_dp hb e2, h1, h2, k _ H (Ex.refl H) rfl⟩
theorem ok_neD : OpOk F (rNeU F.G.K) neD := fun os as H a b c x y ok ha hb e QQ k => by
  unfold neD at e
  cases e1 : pd a with
  | none => rw [e1] at e; cases e
  | some d =>
    cases e2 : pd b with
    | none => rw [e1, e2] at e; cases e
    | some d' =>
      rw [e1, e2] at e
      simp at e
      obtain ⟨⟨h1, h2⟩, rfl⟩ := e
      exact .inl ⟨d, d', rd_dp ha e1, rd_dp hb e2, h1, h2, k _ H (Ex.refl H) rfl⟩
theorem ok_eq : OpOk F (rEqU F.G.K) eqU := fun os as H a b c x y ok ha hb e QQ k => by
  by_cases h : ∃ s t, a = .str s ∧ b = .str t
  · obtain ⟨s, t, rfl, rfl⟩ := h
    cases e
    cases (show x = V.str s from ha); cases (show y = V.str t from hb)
    exact .inr ⟨rfl, k _ H (Ex.refl H) (by show V.bl _ = V.bl _; congr 1; by_cases z : s = t <;> simp [z])⟩
  · exact ok_eqD os as H a b c x y ok ha hb (by
      unfold eqU at e
      split at e
      · exact absurd ⟨_, _, rfl, rfl⟩ h
      · exact e) QQ k
theorem ok_ne : OpOk F (rNeU F.G.K) neU := fun os as H a b c x y ok ha hb e QQ k => by
  by_cases h : ∃ s t, a = .str s ∧ b = .str t
  · obtain ⟨s, t, rfl, rfl⟩ := h
    cases e
    cases (show x = V.str s from ha); cases (show y = V.str t from hb)
    exact .inr ⟨rfl, k _ H (Ex.refl H) (by show V.bl _ = V.bl _; congr 2; by_cases z : s = t <;> simp [z])⟩
  · exact ok_neD os as H a b c x y ok ha hb (by
      unfold neU at e
      split at e
      · exact absurd ⟨_, _, rfl, rfl⟩ h
      · exact e) QQ k
theorem ok_lt : OpOk F (rLtU F.G.K) ltU := fun os as H a b c x y ok ha hb e QQ k => by
  have gen : ∀ {a b : U} {x y : V}, rd F os as a x H → rd F os as b y H → (match pd a, pd b with
    | some d, some e => if PySem.W.alike d e = true ∧ notNone d = true ∧ d.depth ≤ 64 then some (U.bl (PySem.W.dataLt d e)) else none
    | _, _ => none) = some c → rLtU F.G.K x y H QQ := fun {a b x y} ha hb e => by
    cases e1 : pd a with
    | none => rw [e1] at e; cases e
    | some d =>
      cases e2 : pd b with
      | none => rw [e1, e2] at e; cases e
      | some d' =>
        rw [e1, e2] at e
        simp at e
        obtain ⟨⟨h1, h2, h3⟩, rfl⟩ := e
        exact .inr ⟨d, d', rd_dp ha e1, rd_dp hb e2, h1, notNone_ne h2, h3, k _ H (Ex.refl H) rfl⟩
  cases a with
  | int i =>
    cases b with
    | int j => simp [ltU] at e; subst e; exact .inl ⟨i, j, ha, hb, k _ H (Ex.refl H) rfl⟩
    | _ => exact gen ha hb e
  | _ => exact gen ha hb e
theorem atI_im {G : Cxt} {rs : List Addr} {B : Bn} {H : Hp} {us : List U} {vs : List V} {i : Int} {u : U} (h : imAll G rs B us vs H) (e : atI us i = some u) : ∃ v, atI vs i = some v ∧ im G rs B u v H := by
  unfold atI at e ⊢
  rw [imAll_len h]
  cases q : ixN us.length i with
  | none => rw [q] at e; cases e
  | some j =>
    rw [q] at e
    exact imAll_get h (show us[j]? = some u from e)
theorem ok_ix : OpOk F (rIx F.G.K) ixU := fun os as H a b c x y ok ha hb e QQ k => by
  cases a <;> cases b <;> simp [ixU] at e
  · obtain ⟨a, xs, rfl, ta, qa⟩ := ha
    obtain ⟨v, e1, e2⟩ := atI_im qa e
    exact .inr (.inl ⟨a, xs, _, v, rfl, hb, EL.sqT_of ta, e1, k v H (Ex.refl H) e2⟩)
  · obtain ⟨a, xs, rfl, _, ta, qa⟩ := ha
    obtain ⟨v, e1, e2⟩ := atI_im qa e
    exact .inl ⟨a, xs, _, v, rfl, hb, .inl (.inl ta), e1, k v H (Ex.refl H) e2⟩
  · obtain ⟨a, xs, rfl, ta, qa⟩ := ha
    obtain ⟨v, e1, e2⟩ := atI_im qa e
    exact .inl ⟨a, xs, _, v, rfl, hb, ta.sq, e1, k v H (Ex.refl H) e2⟩
theorem ok_len : Op1Ok F (rLenQ F.G.K) lenU := fun os as H a c x ok ha e QQ k => by
  cases a <;> simp [lenU] at e <;> subst e
  · obtain ⟨a, xs, rfl, ta, qa⟩ := ha
    exact ⟨a, xs, rfl, .inr (EL.sqT_of ta), k _ H (Ex.refl H) (by rw [imAll_len qa]; rfl)⟩
  · obtain ⟨a, xs, rfl, _, ta, qa⟩ := ha
    exact ⟨a, xs, rfl, .inl (.inl (.inl ta)), k _ H (Ex.refl H) (by rw [imAll_len qa]; rfl)⟩
  · obtain ⟨a, xs, rfl, ta, qa⟩ := ha
    exact ⟨a, xs, rfl, .inl ta.sq, k _ H (Ex.refl H) (by rw [imAll_len qa]; rfl)⟩
theorem ok_tuple : Op1Ok F (rTupQ F.G.K) tupleU := fun os as H a c x ok ha e QQ k => by
  cases a <;> simp [tupleU] at e <;> subst e
  · obtain ⟨a, xs, rfl, ta, qa⟩ := ha
    exact ⟨a, xs, rfl, .inr ⟨EL.sqT_of ta, k _ H (Ex.refl H) ⟨a, xs, rfl, ta, qa⟩⟩⟩
  · obtain ⟨a, xs, rfl, _, ta, qa⟩ := ha
    exact ⟨a, xs, rfl, .inl ⟨.inl (.inl ta), fun l hl => k _ _ (Ex.new hl) ⟨l, xs, rfl, upd_same, imAll_st (RB.of_ex (Ex.new hl)) _ _ qa⟩⟩⟩
theorem ok_list : Op1Ok F (rListQ F.G.K) listU := fun os as H a c x ok ha e QQ k => by
  cases a <;> simp [listU] at e <;> subst e
  · obtain ⟨a, xs, rfl, ta, qa⟩ := ha
    exact ⟨a, xs, rfl, .inr (EL.sqT_of ta), fun l hl => k _ _ (Ex.new hl) ⟨l, xs, rfl, fun z => ok l z hl, upd_same, imAll_st (RB.of_ex (Ex.new hl)) _ _ qa⟩⟩
  · obtain ⟨a, xs, rfl, _, ta, qa⟩ := ha
    exact ⟨a, xs, rfl, .inl (.inl (.inl ta)), fun l hl => k _ _ (Ex.new hl) ⟨l, xs, rfl, fun z => ok l z hl, upd_same, imAll_st (RB.of_ex (Ex.new hl)) _ _ qa⟩⟩
theorem imAll_bools {G : Cxt} {rs : List Addr} {B : Bn} {H : Hp} : ∀ {us : List U} {bs : List Bool} {vs : List V}, boolsU us = some bs → imAll G rs B us vs H → vs = bs.map V.bl
  | [], bs, vs, e, h => by cases e; exact h
  | .bl b :: r, bs, vs, e, ⟨v, w, ev, h1, h2⟩ => by
    cases e1 : boolsU r with
    | none => rw [boolsU, e1] at e; cases e
    | some cs =>
      rw [boolsU, e1] at e; cases e
      rw [ev, show v = _ from h1, imAll_bools e1 h2]; rfl
theorem ok_all : Op1Ok F (rAll F.G.K) allU := fun os as H a c x ok ha e QQ k => by
  cases a <;> simp [allU] at e
  obtain ⟨bs, e1, rfl⟩ := e
  obtain ⟨a, xs, rfl, _, ta, qa⟩ := ha
  rw [imAll_bools e1 qa] at ta
  exact ⟨a, bs, rfl, .inl (.inl ta), k _ H (Ex.refl H) rfl⟩
theorem rd_ty {os : Os} {as : SA} {H : Hp} : ∀ {u : U} {v : V} {t : String}, tyU u = some t → rd F os as u v H → TyX F.G.K H v (.type t)
  | .non, _, _, e, h => by cases e; cases (show _ = _ from h); exact .base .non
  | .bl _, _, _, e, h => by cases e; cases (show _ = _ from h); exact .base (.bl _)
  | .int _, _, _, e, h => by cases e; cases (show _ = _ from h); exact .base (.int _)
  | .str _, _, _, e, h => by cases e; cases (show _ = _ from h); exact .base (.str _)
  | .tup us, _, _, e, ⟨a, vs, ev, s, _⟩ => by
    cases e; subst ev
    exact .base (.tup s)
  | .lst us, _, _, e, ⟨a, vs, ev, _, s, _⟩ => by
    cases e; subst ev
    exact .base (.lst s)
  | .dct ks us, _, _, e, ⟨a, vs, ev, _, s, _, _⟩ => by
    cases e; subst ev
    rcases s with s | ⟨o, s⟩
    · exact .base (.dK s)
    · exact .fDict s
end
def op1 (f : U → Option U) (wa : M U) : M U := .bind wa fun a => .o (f a)
def op2 (f : U → U → Option U) (wa wb : M U) : M U := .bind wa fun a => .bind wb fun b => .o (f a b)
def testW (wa : M U) : M Bool := .bind wa fun a => .o (boolU a)
def notT (w : M Bool) : M Bool := .bind w fun b => .ret (!b)
def andT (w w' : M Bool) : M Bool := .bind w fun b => if b = true then w' else .ret false
def orT (w w' : M Bool) : M Bool := .bind w fun b => if b = true then .ret true else w'
def andW (w w' : M U) : M U := .bind (testW w) fun b => if b = true then w' else .ret (.bl false)
def orW (w w' : M U) : M U := .bind (testW w) fun b => if b = true then .ret (.bl true) else w'
def iteW {α : Type} (c : M Bool) (w w' : M α) : M α := .bind c fun b => if b = true then w else w'
def chainW (f g : U → U → Option U) (wa wb wc : M U) : M U := .bind wa fun a => .bind wb fun b => .bind (testW (.o (f a b))) fun k => if k = true then .bind wc fun c => .o (g b c) else .ret (.bl false)
def consA (wa : M U) (wr : M (List U)) : M (List U) := .bind wa fun a => .bind wr fun r => .ret (a :: r)
def nilA : M (List U) := .ret []
def tupW (wa : M (List U)) : M U := .bind wa fun us => .o (if us.length ≤ sizeLine then some (.tup us) else none)
def lstW (wa : M (List U)) : M U := .bind wa fun us => .o (if us.length ≤ sizeLine then some (.lst us) else none)
def noP : M (Option Int) := .ret none
def someP (w : M U) : M (Option Int) := .bind w fun u => .o ((intU u).map some)
def slW (wa : M U) (wl wh : M (Option Int)) : M U := .bind wa fun a => .bind wl fun l => .bind wh fun h => .o (slU a l h)
section
variable {F : Fr} {δ : Dl} {te ta tb tc : TE} {tt tu : TT} {wa wb wc : M U} {w w' : M U} {wt wu : M Bool}
theorem EvW.r (h : EvW F te δ w) : EvR F te δ w := fun os as st γ σ H a st' S q QQ k => h os as st γ σ H a st' S q QQ fun v H' as' g S' p => k v H' as' g S' (rd_of_im p)
theorem ev_var {i : Nat} {u : U} (h : δ[i]? = some (some (.im u))) : EvW F (tVar i) δ (.ret u) := fun os as st γ σ H a st' S q QQ k => by
  cases q
  obtain ⟨v, e, p⟩ := S.get h
  exact ⟨v, e, k v H as (Go.refl _ _) S p⟩
theorem ev_c {v : V} {u : U} (h : ∀ os as H, im F.G (rts as) (ban F os as) u v H) : EvW F (tC v) δ (.ret u) := fun os as st γ σ H a st' S q QQ k => by
  cases q; exact k _ H as (Go.refl _ _) S (h os as H)
theorem ev_int {i : Int} : EvW F (tC (.int i)) δ (.ret (.int i)) := ev_c fun _ _ _ => rfl
theorem ev_bl {b : Bool} : EvW F (tC (.bl b)) δ (.ret (.bl b)) := ev_c fun _ _ _ => rfl
theorem ev_str {x : Str} : EvW F (tC (.str x)) δ (.ret (.str x)) := ev_c fun _ _ _ => rfl
theorem ev_non : EvW F (tC .non) δ (.ret .non) := ev_c fun _ _ _ => rfl
theorem ev_op {r : R2} {f : U → U → Option U} (h : OpOk F r f) (ha : EvR F ta δ wa) (hb : EvR F tb δ wb) : EvW F (tOp r ta tb) δ (op2 f wa wb) := fun os as st γ σ H c st' S q QQ k => by
  obtain ⟨a, st1, qa, q⟩ := M.bind_inv q
  obtain ⟨b, st2, qb, q⟩ := M.bind_inv q
  obtain ⟨e, rfl⟩ := M.o_inv q
  exact ha os as st γ σ H a st1 S qa _ fun x H1 as1 g1 S1 px => hb os as1 st1 γ σ H1 b _ S1 qb _ fun y H2 as2 g2 S2 py =>
    h os as2 H2 a b c x y S2.ok (rd_go g2 px) py e QQ fun v H3 e3 p3 => k v H3 as2 ((g1.trans g2).trans (Go.of_ex e3)) (S2.ex e3) p3
theorem ev_cb1 {r : List V → Hp → VK → Prop} {f : U → Option U} (h : Op1Ok F r f) (ha : EvR F ta δ wa) : EvW F (tCB r (tCons ta tNil)) δ (op1 f wa) := fun os as st γ σ H c st' S q QQ k => by
  obtain ⟨a, st1, qa, q⟩ := M.bind_inv q
  obtain ⟨e, rfl⟩ := M.o_inv q
  exact ha os as st γ σ H a _ S qa _ fun x H1 as1 g1 S1 px => h os as1 H1 a c x S1.ok px e QQ fun v H3 e3 p3 => k v H3 as1 (g1.trans (Go.of_ex e3)) (S1.ex e3) p3
theorem ev_neg (ha : EvR F ta δ wa) : EvW F (tUn (rU fun i => .int (-i)) ta) δ (op1 negU wa) := fun os as st γ σ H c st' S q QQ k => by
  obtain ⟨a, st1, qa, q⟩ := M.bind_inv q
  obtain ⟨e, rfl⟩ := M.o_inv q
  refine ha os as st γ σ H a _ S qa _ fun x H1 as1 g1 S1 px => ?_
  cases a <;> simp [negU] at e
  subst e
  exact ⟨_, px, k _ H1 as1 g1 S1 rfl⟩
theorem ev_isi {T : String} (ha : EvR F ta δ wa) : EvW F (tCB (rIsi F.G.K) (tCons ta (tCons (tC (.ty T)) tNil))) δ (op1 (isiU · T) wa) := fun os as st γ σ H c st' S q QQ k => by
  obtain ⟨a, st1, qa, q⟩ := M.bind_inv q
  obtain ⟨ec, rfl⟩ := M.o_inv q
  refine ha os as st γ σ H a _ S qa _ fun x H1 as1 g1 S1 px => ?_
  unfold isiU at ec
  dsimp only at ec
  cases e : tyU a with
  | none => rw [e] at ec; cases ec
  | some t =>
    rw [e] at ec
    by_cases hT : ["int", "bool", "str", "tuple", "list", "dict"].contains T = true
    · simp only [hT, if_true] at ec
      cases ec
      exact ⟨x, .ty T, _, _, _, rfl, .ty T, rd_ty e px, kit_ty (kit_is e hT), k _ H1 as1 g1 S1 rfl⟩
    · simp only [hT] at ec; cases ec
theorem isN_rd {os : Os} {as : SA} {H : Hp} {a : U} {x : V} (px : rd F os as a x H) : decide (x = .non) = isNU a := by
  cases a with
  | non => rw [show x = .non from px]; rfl
  | bl _ | int _ | str _ | top _ => rw [show x = _ from px]; simp [isNU]
  | tup _ | frl _ => obtain ⟨a, vs, e, _⟩ := px; rw [e]; simp [isNU]
  | lst _ | dct _ _ | dcT _ _ | dcN _ _ => obtain ⟨a, vs, e, _⟩ := px; rw [e]; simp [isNU]
  | obj _ _ _ => obtain ⟨a, dx, vs, e, _⟩ := px; rw [e]; simp [isNU]
  | loc _ => obtain ⟨a, _, e⟩ := px; rw [e]; simp [isNU]
  | exc _ => obtain ⟨a, e, _⟩ := px; rw [e]; simp [isNU]
  | exo _ _ _ => obtain ⟨a, _, _, e, _⟩ := px; rw [e]; simp [isNU]
theorem ev_isN (ha : EvR F ta δ wa) : EvW F (tOp (fun x y H Q => y = .non ∧ Q (.bl (decide (x = .non))) H) ta (tC .non)) δ (.bind wa fun a => .ret (.bl (isNU a))) := fun os as st γ σ H c st' S q QQ k => by
  obtain ⟨a, st1, qa, q⟩ := M.bind_inv q
  cases q
  exact ha os as st γ σ H a _ S qa _ fun x H1 as1 g1 S1 px => ⟨rfl, k _ H1 as1 g1 S1 (by show V.bl _ = V.bl _; rw [isN_rd px])⟩
theorem ev_notN (ha : EvR F ta δ wa) : EvW F (tOp (fun x y H Q => y = .non ∧ Q (.bl (!decide (x = .non))) H) ta (tC .non)) δ (.bind wa fun a => .ret (.bl (!isNU a))) := fun os as st γ σ H c st' S q QQ k => by
  obtain ⟨a, st1, qa, q⟩ := M.bind_inv q
  cases q
  exact ha os as st γ σ H a _ S qa _ fun x H1 as1 g1 S1 px => ⟨rfl, k _ H1 as1 g1 S1 (by show V.bl _ = V.bl _; rw [isN_rd px])⟩
theorem rd_bl {os : Os} {as : SA} {H : Hp} {u : U} {v : V} {b : Bool} (e : boolU u = some b) (h : rd F os as u v H) : v = .bl b := by
  cases u <;> simp [boolU] at e
  subst e; exact h
theorem et_test (ha : EvR F te δ wa) : EvT F (tTest te) δ (testW wa) := fun os as st γ σ H c st' S q QQ k => by
  obtain ⟨a, st1, qa, q⟩ := M.bind_inv q
  obtain ⟨e, rfl⟩ := M.o_inv q
  exact ha os as st γ σ H a _ S qa _ fun x H1 as1 g1 S1 px => ⟨c, rd_bl e px, k H1 as1 g1 S1⟩
theorem et_B (ha : EvR F te δ wa) : EvT F (tB te) δ (testW wa) := fun os as st γ σ H c st' S q QQ k => by
  obtain ⟨a, st1, qa, q⟩ := M.bind_inv q
  obtain ⟨e, rfl⟩ := M.o_inv q
  exact ha os as st γ σ H a _ S qa _ fun x H1 as1 g1 S1 px => ⟨c, rd_bl e px, k H1 as1 g1 S1⟩
theorem et_not (h : EvT F tt δ wt) : EvT F (tNot tt) δ (notT wt) := fun os as st γ σ H c st' S q QQ k => by
  obtain ⟨a, st1, qa, q⟩ := M.bind_inv q
  cases q
  exact h os as st γ σ H a _ S qa _ fun H1 as1 g1 S1 => k H1 as1 g1 S1
theorem et_and (h : EvT F tt δ wt) (h' : EvT F tu δ wu) : EvT F (tAnd tt tu) δ (andT wt wu) := fun os as st γ σ H c st' S q QQ k => by
  obtain ⟨a, st1, qa, q⟩ := M.bind_inv q
  refine h os as st γ σ H a _ S qa _ fun H1 as1 g1 S1 => ?_
  cases a with
  | true => exact h' os as1 st1 γ σ H1 c st' S1 q QQ fun H2 as2 g2 S2 => k H2 as2 (g1.trans g2) S2
  | false => cases q; exact k H1 as1 g1 S1
theorem et_or (h : EvT F tt δ wt) (h' : EvT F tu δ wu) : EvT F (tOr tt tu) δ (orT wt wu) := fun os as st γ σ H c st' S q QQ k => by
  obtain ⟨a, st1, qa, q⟩ := M.bind_inv q
  refine h os as st γ σ H a _ S qa _ fun H1 as1 g1 S1 => ?_
  cases a with
  | false => exact h' os as1 st1 γ σ H1 c st' S1 q QQ fun H2 as2 g2 S2 => k H2 as2 (g1.trans g2) S2
  | true => cases q; exact k H1 as1 g1 S1
theorem et_yes : EvT F tYes δ (.ret true) := fun os as st γ σ H c st' S q QQ k => by
  cases q; exact k H as (Go.refl _ _) S
theorem ev_and (h : EvR F ta δ wa) (h' : EvW F tb δ wb) : EvW F (tAndV ta tb) δ (andW wa wb) := fun os as st γ σ H c st' S q QQ k => by
  obtain ⟨b, st1, qa, q⟩ := M.bind_inv q
  obtain ⟨a, st2, qa, q2⟩ := M.bind_inv qa
  obtain ⟨e, rfl⟩ := M.o_inv q2
  refine h os as st γ σ H a _ S qa _ fun x H1 as1 g1 S1 px => ⟨b, rd_bl e px, ?_⟩
  cases b with
  | true => exact h' os as1 _ γ σ H1 c st' S1 q _ fun v H2 as2 g2 S2 p => k v H2 as2 (g1.trans g2) S2 p
  | false => cases q; exact k _ H1 as1 g1 S1 rfl
theorem ev_not (h : EvR F ta δ wa) : EvW F (tNotV ta) δ (op1 notU wa) := fun os as st γ σ H c st' S q QQ k => by
  obtain ⟨a, st1, qa, q⟩ := M.bind_inv q
  obtain ⟨e, rfl⟩ := M.o_inv q
  refine h os as st γ σ H a _ S qa _ fun x H1 as1 g1 S1 px => ?_
  cases a <;> simp [notU] at e
  subst e
  exact ⟨_, px, k _ H1 as1 g1 S1 rfl⟩
theorem evp_if {P : PP U} {wa wb : M U} (h : EvT F tt δ wt) (ha : EvP F P ta δ wa) (hb : EvP F P tb δ wb) (tr : ∀ os as H H0 u v H', (∀ a, H' a = none → H a = none) → P os as H' u v H0 → P os as H u v H0) : EvP F P (tIf tt ta tb) δ (iteW wt wa wb) := fun os as st γ σ H c st' S q QQ k => by
  obtain ⟨b, st1, qa, q⟩ := M.bind_inv q
  refine h os as st γ σ H b _ S qa _ fun H1 as1 g1 S1 => ?_
  cases b with
  | true => exact ha os as1 _ γ σ H1 c st' S1 q _ fun v H2 as2 g2 S2 p => k v H2 as2 (g1.trans g2) S2 (tr _ _ _ _ _ _ _ (fun a => g1.fresh) p)
  | false => exact hb os as1 _ γ σ H1 c st' S1 q _ fun v H2 as2 g2 S2 p => k v H2 as2 (g1.trans g2) S2 (tr _ _ _ _ _ _ _ (fun a => g1.fresh) p)
theorem ev_if (h : EvT F tt δ wt) (ha : EvW F ta δ wa) (hb : EvW F tb δ wb) : EvW F (tIf tt ta tb) δ (iteW wt wa wb) := evp_if h ha hb fun _ _ _ _ _ _ _ _ p => p
theorem ev_chain {r r' : R2} {f g : U → U → Option U} (hf : OpOk F r f) (hg : OpOk F r' g) (ha : EvR F ta δ wa) (hb : EvR F tb δ wb) (hc : EvR F tc δ wc) : EvW F (tChain r r' ta tb tc) δ (chainW f g wa wb wc) := fun os as st γ σ H c st' S q QQ k => by
  obtain ⟨a, st1, qa, q⟩ := M.bind_inv q
  obtain ⟨b, st2, qb, q⟩ := M.bind_inv q
  obtain ⟨z, st3, qz, q⟩ := M.bind_inv q
  obtain ⟨y, st4, qy, qz2⟩ := M.bind_inv (show M.bind (M.o (f a b)) (fun a => M.o (boolU a)) st2 = _ from qz)
  obtain ⟨ey, rfl⟩ := M.o_inv qy
  obtain ⟨ez, rfl⟩ := M.o_inv qz2
  refine ha os as st γ σ H a st1 S qa _ fun x H1 as1 g1 S1 px => hb os as1 st1 γ σ H1 b _ S1 qb _ fun y' H2 as2 g2 S2 py => ?_
  refine hf os as2 H2 a b y x y' S2.ok (rd_go g2 px) py ey _ fun v H3 e3 p3 => ⟨z, rd_bl (F := F) (os := os) (as := as2) (H := H3) ez (rd_of_im p3), ?_⟩
  have g3 := (g1.trans g2).trans (Go.of_ex (as := as2) e3)
  cases z with
  | false => cases q; exact k _ H3 as2 g3 (S2.ex e3) rfl
  | true =>
    obtain ⟨c', st5, qc, q⟩ := M.bind_inv q
    obtain ⟨ec, rfl⟩ := M.o_inv q
    refine hc os as2 _ γ σ H3 c' _ (S2.ex e3) qc _ fun u H4 as4 g4 S4 pu => ?_
    exact hg os as4 H4 b c' c y' u S4.ok (rd_go g4 (rd_go (Go.of_ex e3) py)) pu ec QQ fun v H5 e5 p5 => k v H5 as4 ((g3.trans g4).trans (Go.of_ex e5)) (S4.ex e5) p5
theorem ea_nil : EvAW F tNil δ nilA := fun os as st γ σ H us st' S q QQ k => by cases q; exact k [] H as (Go.refl _ _) S rfl
theorem ea_cons {tr : TA} {wr : M (List U)} (ha : EvW F ta δ wa) (hr : EvAW F tr δ wr) : EvAW F (tCons ta tr) δ (consA wa wr) := fun os as st γ σ H us st' S q QQ k => by
  obtain ⟨a, st1, qa, q⟩ := M.bind_inv q
  obtain ⟨r, st2, qr, q⟩ := M.bind_inv q
  cases q
  exact ha os as st γ σ H a _ S qa _ fun x H1 as1 g1 S1 px => hr os as1 st1 γ σ H1 r _ S1 qr _ fun vs H2 as2 g2 S2 pv => k (x :: vs) H2 as2 (g1.trans g2) S2 ⟨x, vs, rfl, im_go g2 px, pv⟩
theorem ev_tup {t : TA} {wl : M (List U)} (h : EvAW F t δ wl) : EvW F (tTup t) δ (tupW wl) := fun os as st γ σ H c st' S q QQ k => by
  obtain ⟨us, st1, qa, q⟩ := M.bind_inv q
  obtain ⟨e, rfl⟩ := M.o_inv q
  by_cases hl : us.length ≤ sizeLine
  · rw [if_pos hl] at e
    cases e
    exact h os as st γ σ H us _ S qa _ fun vs H1 as1 g1 S1 pv => ⟨by rw [imAll_len pv]; exact hl, fun p hp => k _ _ as1 (g1.trans (Go.of_ex (Ex.new hp))) (S1.ex (Ex.new hp)) ⟨p, vs, rfl, upd_same, imAll_st (RB.of_ex (Ex.new hp)) _ _ pv⟩⟩
  · rw [if_neg hl] at e; cases e
theorem flo_cons {os : Os} {p : Nat × List Addr} : flo (p :: os) = p.2 ++ flo os := rfl
theorem ban_cons {os : Os} {as : SA} {k : Nat} {A : List Addr} {a : Addr} : ban F ((k, A) :: os) as a ↔ a ∈ A ∨ ban F os as a := by
  unfold ban
  rw [flo_cons, List.mem_append]
  constructor
  · rintro (h | (h | h) | h)
    · exact .inr (.inl h)
    · exact .inl h
    · exact .inr (.inr (.inl h))
    · exact .inr (.inr (.inr h))
  · rintro (h | h | h | h)
    · exact .inr (.inl (.inl h))
    · exact .inl h
    · exact .inr (.inl (.inr h))
    · exact .inr (.inr h)
theorem sub_cons {os : Os} {as : SA} {k : Nat} {A : List Addr} {H : Hp} (hA : ∀ a ∈ A, H a = none) : ∀ a, H a ≠ none → ban F ((k, A) :: os) as a → ban F os as a := fun a n b => (ban_cons.mp b).elim (fun z => absurd (hA a z) n) id
theorem SDo.grow {os : Os} {as : SA} {st : Sto} {γ : List (U × V)} {H H' : Hp} {σ : L2.St} {k : Nat} {p : Addr} (S : SDo F os as st γ H σ δ) (hk : k ∉ os.map (·.1)) (hp : H p = none) (e : Ex H H') (hp' : H' p ≠ none) : SDo F ((k, [p]) :: os) as st γ H' σ δ := by
  have hA : ∀ a ∈ [p], H a = none := fun a m => by rw [List.mem_singleton] at m; rw [m]; exact hp
  have sb := sub_cons (F := F) (os := os) (as := as) (k := k) hA
  have up : ∀ u v, im F.G (rts as) (ban F os as) u v H → im F.G (rts as) (ban F ((k, [p]) :: os) as) u v H' := fun u v h => im_st (RB.of_ex e) _ _ (im_sub sb _ _ h)
  have tp : ∀ a xs, H a = some (.tup xs) → H' a = some (.tup xs) := fun a xs h => e _ _ h
  have kp : ∀ a, H a ≠ none → H' a = H a := fun a n => by
    cases q : H a with
    | none => exact absurd q n
    | some o => exact e a o q
  refine ⟨fun q m => up _ _ (S.gh q m), S.rel.trans (Go.of_ex e), fun a b => ?_, ?_, List.nodup_cons.mpr ⟨hk, S.ix⟩, fun a m => ?_, fun a z => ?_, StOk.mono up tp (fun a m => kp a (S.ok a (.inr (.inr m)))) S.sto, S.len, fun i x e1 => ?_⟩
  · rcases ban_cons.mp b with z | z
    · rw [List.mem_singleton] at z; rw [z]; exact hp'
    · rw [kp a (S.ok a z)]; exact S.ok a z
  · rw [flo_cons]
    show ([p] ++ flo os ++ fl as).Nodup
    rw [List.append_assoc]
    refine List.nodup_append.mpr ⟨by simp, S.nd, fun a m b q e => ?_⟩
    rw [List.mem_singleton] at m
    subst m e
    exact S.ok _ ((List.mem_append.mp q).elim (fun z => .inr (.inl z)) fun z => .inr (.inr z)) hp
  · rcases List.mem_append.mp (show a ∈ [p] ++ flo os from m) with z | z
    · rw [List.mem_singleton] at z; rw [z]; exact S.rel.fresh hp
    · exact S.new a z
  · rcases z with z | z
    · rcases List.mem_append.mp (show a ∈ [p] ++ flo os from z) with z | z
      · rw [List.mem_singleton] at z; rw [z]; exact fun b => S.ok p (.inl b) hp
      · exact S.nb a (.inl z)
    · exact S.nb a (.inr z)
  · obtain ⟨v, h1, h2⟩ := S.at_ i x e1
    refine ⟨v, h1, ?_⟩
    match x, h2 with
    | .im u, h2 => exact up _ _ h2
    | .raw _, h2 => exact h2
    | .own sh u, ⟨A, m, h2⟩ => exact ⟨A, List.mem_cons_of_mem _ m, own_mono up tp _ _ _ _ (fun a z => kp a (S.ok a (.inr (.inl (mem_flo m z))))) h2⟩
theorem en_lst {t : TA} {wl : M (List U)} (h : EvAW F t δ wl) : EvN F (.lst .leaf) (tLst t) δ (lstW wl) := fun os as st γ σ H c st' S q QQ k => by
  obtain ⟨us, st1, qa, q⟩ := M.bind_inv q
  obtain ⟨e, rfl⟩ := M.o_inv q
  by_cases hl : us.length ≤ sizeLine
  · rw [if_pos hl] at e
    cases e
    refine h os as st γ σ H us _ S qa _ fun vs H1 as1 g1 S1 pv => ⟨by rw [imAll_len pv]; exact hl, fun p hp => k _ _ as1 [p] (g1.trans (Go.of_ex (Ex.new hp))) (fun k hk => S1.grow hk hp (Ex.new hp) (by rw [upd_same]; exact fun z => nomatch z)) ?_ fun a m => ?_⟩
    · refine own_lst.mpr ⟨p, vs, rfl, rfl, upd_same, imAll_st (RB.of_ex (Ex.new hp)) _ _ (imAll_sub (sub_cons fun a m => ?_) _ _ pv)⟩
      rw [List.mem_singleton] at m; rw [m]; exact hp
    · rw [List.mem_singleton] at m; rw [m]; exact g1.fresh hp
  · rw [if_neg hl] at e; cases e
theorem own_im {B : Bn} {G : Cxt} {rs : List Addr} {H : Hp} : ∀ (s : Sh) (u : U) (v : V) (A : List Addr), (∀ a ∈ A, ¬ B a) → ownD G rs B s u v H A → im G rs B u v H := by
  have key : ∀ (P : Nat → U → V → Hp → List Addr → Prop) (us : List U) (n : Nat) (vs : List V) (A : List Addr), (∀ n u v A1, (∀ a ∈ A1, a ∈ A) → P n u v H A1 → im G rs B u v H) → ownZ P n us vs H A → imAll G rs B us vs H := by
    intro P us
    induction us with
    | nil => intro n vs A _ h; exact h.1
    | cons u us ih =>
      rintro n vs A f ⟨v, r, A1, A2, e1, e2, h1, h2⟩
      exact ⟨v, r, e1, f n u v A1 (fun a m => by rw [e2]; exact List.mem_append_left _ m) h1, ih (n + 1) r A2 (fun n u v A3 s p => f n u v A3 (fun a m => by rw [e2]; exact List.mem_append_right _ (s a m)) p) h2⟩
  intro s
  induction s with
  | leaf => intro u v A _ h; exact h.2
  | lst s ih =>
    intro u v A nb h
    cases u <;> first | exact h.elim | skip
    obtain ⟨a, vs, A', e1, e2, h1, q⟩ := h
    exact ⟨a, vs, e1, nb a (by rw [e2]; exact List.mem_cons_self), h1, key _ _ _ _ _ (fun n u v A1 m p => ih u v A1 (fun a z => nb a (by rw [e2]; exact List.mem_cons_of_mem _ (m a z))) p) q⟩
  | dct s ih =>
    intro u v A nb h
    cases u <;> first | exact h.elim | skip
    case' dcN =>
      obtain ⟨a, vs, A', e1, e2, h1, l, q1, q⟩ := h
      exact ⟨a, vs, e1, nb a (by rw [e2]; exact List.mem_cons_self), .inl h1, l, q1, key _ _ _ _ _ (fun n u v A1 m p => ih u v A1 (fun a z => nb a (by rw [e2]; exact List.mem_cons_of_mem _ (m a z))) p) q⟩
    all_goals
      obtain ⟨a, vs, A', e1, e2, h1, l, q⟩ := h
      exact ⟨a, vs, e1, nb a (by rw [e2]; exact List.mem_cons_self), .inl h1, l, key _ _ _ _ _ (fun n u v A1 m p => ih u v A1 (fun a z => nb a (by rw [e2]; exact List.mem_cons_of_mem _ (m a z))) p) q⟩
  | tup f ih =>
    intro u v A nb h
    cases u <;> first | exact h.elim | skip
    obtain ⟨a, vs, e1, h1, q⟩ := h
    exact ⟨a, vs, e1, h1, key _ _ _ _ _ (fun n u v A1 m p => ih n u v A1 (fun a z => nb a (m a z)) p) q⟩
  | obj f ih =>
    intro u v A nb h
    cases u <;> first | exact h.elim | skip
    obtain ⟨a, dx, vs, A', e1, e2, h1, l, q⟩ := h
    exact ⟨a, dx, vs, e1, nb a (by rw [e2]; exact List.mem_cons_self), h1, l, key _ _ _ _ _ (fun n u v A1 m p => ih _ u v A1 (fun a z => nb a (by rw [e2]; exact List.mem_cons_of_mem _ (m a z))) p) q⟩
theorem nodup_fresh (l : List Nat) (n : Nat) : ∃ k, k ∉ l ∧ n ≤ k := by
  have key : ∀ l : List Nat, ∃ m, ∀ x ∈ l, x < m := by
    intro l
    induction l with
    | nil => exact ⟨0, fun _ h => nomatch h⟩
    | cons a l ih =>
      obtain ⟨m, h⟩ := ih
      refine ⟨max m (a + 1), fun x hx => ?_⟩
      rcases List.mem_cons.mp hx with rfl | hx
      · omega
      · have := h x hx; omega
  obtain ⟨m, h⟩ := key l
  refine ⟨max m n, fun z => ?_, by omega⟩
  have := h _ z
  omega
theorem SDo.ungrow {os : Os} {as : SA} {st : Sto} {γ : List (U × V)} {H : Hp} {σ : L2.St} {k : Nat} {A : List Addr} (S : SDo F ((k, A) :: os) as st γ H σ δ) (hk : δ.length ≤ k) : SDo F os as st γ H σ δ := by
  have sb : ∀ a, H a ≠ none → ban F os as a → ban F ((k, A) :: os) as a := fun a _ b => ban_cons.mpr (.inr b)
  have up : ∀ u v, im F.G (rts as) (ban F ((k, A) :: os) as) u v H → im F.G (rts as) (ban F os as) u v H := fun u v h => im_sub sb _ _ h
  refine ⟨fun q m => up _ _ (S.gh q m), S.rel, fun a b => S.ok a (ban_cons.mpr (.inr b)), (List.nodup_append.mp (show (A ++ (flo os ++ fl as)).Nodup by rw [← List.append_assoc]; exact S.nd)).2.1, (List.nodup_cons.mp S.ix).2, fun a m => S.new a (List.mem_append_right A m), fun a z => S.nb a (z.imp (fun m => List.mem_append_right A m) id), StOk.mono up (fun _ _ h => h) (fun _ _ => rfl) S.sto, S.len, fun i x e1 => ?_⟩
  obtain ⟨v, h1, h2⟩ := S.at_ i x e1
  refine ⟨v, h1, ?_⟩
  match x, h2 with
  | .im u, h2 => exact up _ _ h2
  | .raw _, h2 => exact h2
  | .own sh u, ⟨A', m, h2⟩ =>
    refine ⟨A', ?_, own_mono up (fun _ _ h => h) _ _ _ _ (fun _ _ => rfl) h2⟩
    rcases List.mem_cons.mp m with e | m
    · have := getElem?_lt e1
      have : i = k := (Prod.mk.inj e).1
      omega
    · exact m
theorem EvN.ew {s : Sh} (h : EvN F s te δ w) : EvW F te δ w := fun os as st γ σ H a st' S q QQ k => h os as st γ σ H a st' S q QQ fun v H' as' A g S' p n => by
  obtain ⟨j, hj, hl⟩ := nodup_fresh (os.map (·.1)) δ.length
  have S1 := S' j hj
  have nb : ∀ a ∈ A, ¬ ban F os as' a := fun a m b => by
    rcases b with b | b | b
    · exact S1.nb a (.inl (List.mem_append_left _ m)) b
    · exact (List.nodup_append.mp (show (A ++ (flo os ++ fl as')).Nodup by rw [← List.append_assoc]; exact S1.nd)).2.2 a m a (List.mem_append_left _ b) rfl
    · exact (List.nodup_append.mp (show (A ++ (flo os ++ fl as')).Nodup by rw [← List.append_assoc]; exact S1.nd)).2.2 a m a (List.mem_append_right _ b) rfl
  exact k v H' as' g (S1.ungrow hl) (own_im s _ _ A nb (own_mono (fun u v h => im_sub (fun a _ b => ban_cons.mpr (.inr b)) u v h) (fun _ _ h => h) _ _ _ _ (fun _ _ => rfl) p))
theorem eo_none : EvO F tNoPart δ noP := fun os as st γ σ H c st' S q QQ k => by cases q; exact k H as (Go.refl _ _) S
theorem eo_some (ha : EvR F te δ wa) : EvO F (tPart te) δ (someP wa) := fun os as st γ σ H c st' S q QQ k => by
  obtain ⟨a, st1, qa, q⟩ := M.bind_inv q
  obtain ⟨e, rfl⟩ := M.o_inv q
  refine ha os as st γ σ H a _ S qa _ fun x H1 as1 g1 S1 px => ?_
  cases a <;> simp [intU] at e
  subst e
  exact ⟨_, px, k H1 as1 g1 S1⟩
theorem cutV_im {G : Cxt} {rs : List Addr} {B : Bn} {H : Hp} {us : List U} {vs : List V} {lo hi : Option Int} (h : imAll G rs B us vs H) : imAll G rs B (cut us lo hi) (cutV vs lo hi) H := by
  unfold EL.cut cutV
  rw [imAll_len h]
  exact imAll_take _ (imAll_drop _ h)
theorem ev_sl {tl th : TO} {wl wh : M (Option Int)} (ha : EvR F te δ wa) (hl : EvO F tl δ wl) (hh : EvO F th δ wh) : EvW F (tSl (rSlU F.G.K) te tl th) δ (slW wa wl wh) := fun os as st γ σ H c st' S q QQ k => by
  obtain ⟨a, st1, qa, q⟩ := M.bind_inv q
  obtain ⟨lo, st2, ql, q⟩ := M.bind_inv q
  obtain ⟨hi, st3, qh, q⟩ := M.bind_inv q
  obtain ⟨e, rfl⟩ := M.o_inv q
  refine ha os as st γ σ H a _ S qa _ fun x H1 as1 g1 S1 px => hl os as1 st1 γ σ H1 lo _ S1 ql _ fun H2 as2 g2 S2 => hh os as2 st2 γ σ H2 hi _ S2 qh _ fun H3 as3 g3 S3 => ?_
  have px := rd_go g3 (rd_go g2 px)
  have g := (g1.trans g2).trans g3
  cases a <;> simp only [slU] at e <;> first | cases e | skip
  · obtain ⟨a, vs, e, s, pv⟩ := px
    refine .inr ⟨a, vs, e, EL.sqT_of s, fun z => ?_, fun _ p hp => k _ _ as3 (g.trans (Go.of_ex (Ex.new hp))) (S3.ex (Ex.new hp)) ⟨p, _, rfl, upd_same, imAll_st (RB.of_ex (Ex.new hp)) _ _ (cutV_im pv)⟩⟩
    refine k _ H3 as3 g S3 ⟨a, vs, rfl, s, ?_⟩
    have := cutV_im (lo := lo) (hi := hi) pv
    unfold cutV at this
    rw [z.1, z.2, List.drop_zero, Nat.sub_zero, List.take_length] at this
    exact this
  · obtain ⟨a, vs, e, nb, s, pv⟩ := px
    exact .inl ⟨a, vs, e, .inl (.inl s), fun p hp => k _ _ as3 (g.trans (Go.of_ex (Ex.new hp))) (S3.ex (Ex.new hp)) ⟨p, _, rfl, S3.notban hp, upd_same, imAll_st (RB.of_ex (Ex.new hp)) _ _ (cutV_im pv)⟩⟩
  · obtain ⟨a, vs, e, s, pv⟩ := px
    exact .inl ⟨a, vs, e, s.sq, fun p hp => k _ _ as3 (g.trans (Go.of_ex (Ex.new hp))) (S3.ex (Ex.new hp)) ⟨p, _, rfl, S3.notban hp, upd_same, imAll_st (RB.of_ex (Ex.new hp)) _ _ (cutV_im pv)⟩⟩
end
section
variable {F : Fr} {os : Os} {as as' : SA} {st : Sto} {γ : List (U × V)} {H H' : Hp} {σ : L2.St} {δ : Dl} {v : V} {u : U} {i : Nat}
theorem mem_filt {os : Os} {p : Nat × List Addr} (h : p ∈ os.filter fun q => decide (q.1 ≠ i)) : p ∈ os ∧ p.1 ≠ i := by
  have := List.mem_filter.mp h
  exact ⟨this.1, by simpa using this.2⟩
theorem flo_filt {a : Addr} (h : a ∈ flo (os.filter fun q => decide (q.1 ≠ i))) : a ∈ flo os := by
  obtain ⟨A, m, h⟩ := List.mem_flatten.mp h
  obtain ⟨p, mp, rfl⟩ := List.mem_map.mp m
  exact mem_flo (i := p.1) (A := p.2) (mem_filt mp).1 h
theorem sub_flat {α : Type} {l l' : List (List α)} (h : l'.Sublist l) : l'.flatten.Sublist l.flatten := by
  induction h with
  | slnil => exact List.Sublist.slnil
  | @cons l1 l2 a _ ih => rw [List.flatten_cons]; exact ih.trans (List.sublist_append_right _ _)
  | @cons_cons l1 l2 a _ ih => rw [List.flatten_cons, List.flatten_cons]; exact List.Sublist.append (List.Sublist.refl _) ih
theorem SDo.drop (s : SDo F os as st γ H σ δ) (i : Nat) : SDo F (os.filter fun q => decide (q.1 ≠ i)) as st γ H σ (δ.set i none) := by
  have sb : ∀ a, H a ≠ none → ban F (os.filter fun q => decide (q.1 ≠ i)) as a → ban F os as a := fun a _ b => b.elim .inl fun b => b.elim (fun z => .inr (.inl (flo_filt z))) fun z => .inr (.inr z)
  have sl : (flo (os.filter fun q => decide (q.1 ≠ i))).Sublist (flo os) := sub_flat ((List.filter_sublist (l := os)).map _)
  refine ⟨fun p m => im_sub sb _ _ (s.gh p m), s.rel, fun a b => s.ok a (b.elim .inl fun b => b.elim (fun z => .inr (.inl (flo_filt z))) fun z => .inr (.inr z)), (List.Sublist.append sl (List.Sublist.refl _)).nodup s.nd, ((List.filter_sublist (l := os)).map _).nodup s.ix, fun a m => s.new a (flo_filt m), fun a z => s.nb a (z.imp flo_filt id),
    StOk.mono (fun _ _ h => im_sub sb _ _ h) (fun _ _ h => h) (fun _ _ => rfl) s.sto, by rw [List.length_set]; exact s.len, fun j x e => ?_⟩
  by_cases hj : i = j
  · subst hj
    have hl : i < δ.length := by have := getElem?_lt e; rwa [List.length_set] at this
    rw [List.getElem?_set_self hl] at e; cases e
  · rw [List.getElem?_set_ne hj] at e
    obtain ⟨w, h1, h2⟩ := s.at_ j x e
    refine ⟨w, h1, ?_⟩
    match x, h2 with
    | .im u, h2 => exact im_sub sb _ _ h2
    | .raw _, h2 => exact h2
    | .own sh u, ⟨A, m, h2⟩ => exact ⟨A, List.mem_filter.mpr ⟨m, by simpa using fun z => hj z.symm⟩, own_mono (fun _ _ h => im_sub sb _ _ h) (fun _ _ h => h) _ _ _ _ (fun _ _ => rfl) h2⟩
theorem SDo.own {k : Nat} {A : List Addr} {sh : Sh} (S : SDo F ((k, A) :: os) as st γ H σ δ) (hk : δ.length ≤ k) (h : ownD F.G (rts as) (ban F ((0, A) :: os) as) sh u v H A) :
    SDo F ((i, A) :: os.filter fun q => decide (q.1 ≠ i)) as st γ H (σ.set i (some v)) (δ.set i (some (.own sh u))) := by
  have fs : (List.filter (fun q => decide (q.1 ≠ i)) os).Sublist os := List.filter_sublist
  have sl : (flo (os.filter fun q => decide (q.1 ≠ i))).Sublist (flo os) := sub_flat (fs.map _)
  have bs : ∀ a, ban F ((i, A) :: os.filter fun q => decide (q.1 ≠ i)) as a → ban F ((k, A) :: os) as a := fun a b => ban_cons.mpr ((ban_cons.mp b).imp id fun b => b.elim .inl fun b => b.elim (fun z => .inr (.inl (flo_filt z))) fun z => .inr (.inr z))
  have up : ∀ u v, im F.G (rts as) (ban F ((k, A) :: os) as) u v H → im F.G (rts as) (ban F ((i, A) :: os.filter fun q => decide (q.1 ≠ i)) as) u v H := fun u v h => im_sub (fun a _ b => bs a b) _ _ h
  have nd : (A ++ (flo os ++ fl as)).Nodup := by rw [← List.append_assoc]; exact S.nd
  refine ⟨fun q m => up _ _ (S.gh q m), S.rel, fun a b => S.ok a (bs a b), ?_, List.nodup_cons.mpr ⟨fun m => ?_, (fs.map _).nodup (List.nodup_cons.mp S.ix).2⟩, fun a m => ?_, fun a z => ?_, StOk.mono up (fun _ _ h => h) (fun _ _ => rfl) S.sto, by rw [List.length_set, List.length_set, S.len], fun j x e => ?_⟩
  · show (A ++ flo _ ++ fl as).Nodup
    rw [List.append_assoc]
    exact (List.Sublist.append (List.Sublist.refl _) (List.Sublist.append sl (List.Sublist.refl _))).nodup nd
  · obtain ⟨p, mp, e⟩ := List.mem_map.mp m
    exact (mem_filt mp).2 e
  · rcases List.mem_append.mp (show a ∈ A ++ flo _ from m) with z | z
    · exact S.new a (List.mem_append_left _ z)
    · exact S.new a (List.mem_append_right A (flo_filt z))
  · refine S.nb a (z.imp (fun z => ?_) id)
    rcases List.mem_append.mp (show a ∈ A ++ flo _ from z) with z | z
    · exact List.mem_append_left _ z
    · exact List.mem_append_right A (flo_filt z)
  · by_cases hj : i = j
    · subst hj
      have hl : i < δ.length := by have := getElem?_lt e; rwa [List.length_set] at this
      rw [List.getElem?_set_self hl] at e
      cases e
      exact ⟨v, List.getElem?_set_self (by rw [S.len]; exact hl), A, List.mem_cons_self, own_mono up (fun _ _ h => h) _ _ _ _ (fun _ _ => rfl) h⟩
    · rw [List.getElem?_set_ne hj] at e
      obtain ⟨w, h1, h2⟩ := S.at_ j x e
      refine ⟨w, by rw [List.getElem?_set_ne hj]; exact h1, ?_⟩
      match x, h2 with
      | .im u, h2 => exact up _ _ h2
      | .raw _, h2 => exact h2
      | .own sh u, ⟨A', m, h2⟩ =>
        refine ⟨A', List.mem_cons_of_mem _ (List.mem_filter.mpr ⟨?_, by simpa using fun z => hj z.symm⟩), own_mono up (fun _ _ h => h) _ _ _ _ (fun _ _ => rfl) h2⟩
        rcases List.mem_cons.mp m with z | m
        · have := getElem?_lt e
          have : j = k := (Prod.mk.inj z).1
          omega
        · exact m
end
def seqO {S S' L : Type} (w : M (Out S L)) (k : S → M (Out S' L)) : M (Out S' L) := .bind w fun o => match o with
  | .nx s => k s
  | .rt u => .ret (.rt u)
  | .bk l => .ret (.bk l)
  | .ct l => .ret (.ct l)
def rtO {S L : Type} (w : M U) : M (Out S L) := .bind w fun u => .ret (.rt u)
def nxO {S L : Type} (s : S) : M (Out S L) := .ret (.nx s)
def fnM (w : M (Out Unit Unit)) : M U := .bind w fun o => match o with
  | .rt u => .ret u
  | .nx _ => .ret .non
  | _ => .fail
def un2 {α : Type} (u : U) (k : U → U → M α) : M α := match u with
  | .tup [a, b] => k a b
  | _ => .fail
def un3 {α : Type} (u : U) (k : U → U → U → M α) : M α := match u with
  | .tup [a, b, c] => k a b c
  | _ => .fail
def un6 {α : Type} (u : U) (k : U → U → U → U → U → U → M α) : M α := match u with
  | .tup [a, b, c, d, e, f] => k a b c d e f
  | _ => .fail
def forO {S L : Type} (f : U → S → M (Out S S)) : List U → S → M (Out S L)
  | [], s => nxO s
  | x :: xs, s => .bind (f x s) fun o => match o with
    | .nx s' => forO f xs s'
    | .ct s' => forO f xs s'
    | .bk s' => nxO s'
    | .rt u => .ret (.rt u)
def whileN {S L : Type} (c : S → M Bool) (b : S → M (Out S S)) : Nat → S → M (Out S L)
  | 0, _ => .fail
  | n + 1, s => .bind (c s) fun t => if t = true then .bind (b s) fun o => match o with
    | .nx s' => whileN c b n s'
    | .ct s' => whileN c b n s'
    | .bk s' => nxO s'
    | .rt u => .ret (.rt u)
    else nxO s
open Classical in
noncomputable def whileO {S L : Type} (c : S → M Bool) (b : S → M (Out S S)) (s : S) : M (Out S L) := fun st => if h : ∃ n r, whileN (L := L) c b n s st = some r then whileN c b h.choose s st else none
section
variable {S S' L : Type} {c : S → M Bool} {b : S → M (Out S S)}
theorem M.bind_some {α β : Type} {w : M α} {f : α → M β} {st : Sto} {r : Res β × Sto} (h : M.bind w f st = some r) : (∃ a st1, w st = some (.ok a, st1) ∧ f a st1 = some r) ∨ ∃ e st1, w st = some (.er e, st1) ∧ r = (.er e, st1) := by
  unfold M.bind at h
  cases e : w st with
  | none => rw [e] at h; cases h
  | some p =>
    obtain ⟨q, st1⟩ := p
    rw [e] at h
    cases q with
    | ok a => exact .inl ⟨a, st1, rfl, h⟩
    | er x => exact .inr ⟨x, st1, rfl, (Option.some.inj h).symm⟩
theorem M.bind_of {α β : Type} {w : M α} {f : α → M β} {st st1 : Sto} {a : α} (h : w st = some (.ok a, st1)) : M.bind w f st = f a st1 := by
  unfold M.bind; rw [h]
theorem M.bind_er {α β : Type} {w : M α} {f : α → M β} {st st1 : Sto} {e : U} (h : w st = some (.er e, st1)) : M.bind w f st = some (.er e, st1) := by
  unfold M.bind; rw [h]
theorem whileN_succ {n : Nat} : ∀ {s : S} {st : Sto} {r : Res (Out S L) × Sto}, whileN c b n s st = some r → whileN c b (n + 1) s st = some r := by
  induction n with
  | zero => intro s st r h; cases h
  | succ n ih =>
    intro s st r h
    rw [whileN] at h ⊢
    rcases M.bind_some h with ⟨t, st1, e1, h⟩ | ⟨e, st1, e1, rfl⟩
    · rw [M.bind_of e1]
      cases t with
      | false => exact h
      | true =>
        simp only [if_true] at h ⊢
        rcases M.bind_some h with ⟨o, st2, e2, h⟩ | ⟨e, st2, e2, rfl⟩
        · rw [M.bind_of e2]
          cases o with
          | nx s' => exact ih h
          | ct s' => exact ih h
          | bk s' => exact h
          | rt u => exact h
        · rw [M.bind_er e2]
    · rw [M.bind_er e1]
theorem whileN_le {n m : Nat} (hm : n ≤ m) {s : S} {st : Sto} {r : Res (Out S L) × Sto} (h : whileN c b n s st = some r) : whileN c b m s st = some r := by
  induction hm with
  | refl => exact h
  | step _ ih => exact whileN_succ ih
theorem whileO_of {n : Nat} {s : S} {st : Sto} {r : Res (Out S L) × Sto} (h : whileN c b n s st = some r) : whileO c b s st = some r := by
  unfold whileO
  have hx : ∃ n r, whileN (L := L) c b n s st = some r := ⟨n, r, h⟩
  rw [dif_pos hx]
  obtain ⟨r', h'⟩ := hx.choose_spec
  rcases Nat.le_total n hx.choose with z | z
  · exact whileN_le z h
  · rw [h']
    have := whileN_le z h'
    rw [h] at this
    exact this.symm
theorem whileO_inv {s : S} {st : Sto} {r : Res (Out S L) × Sto} (h : whileO c b s st = some r) : ∃ n, whileN c b n s st = some r := by
  unfold whileO at h
  split at h
  · exact ⟨_, h⟩
  · cases h
end
def EvF (F : Fr) : TE → Dl → M U → Prop := EvP F fun os as _ u v H => im F.G (rts as) (ban F [] as) u v H
def EvAF (F : Fr) : TA → Dl → M (List U) → Prop := EvA F fun os as us vs H => imAll F.G (rts as) (ban F [] as) us vs H
section
variable {F : Fr} {δ : Dl} {te ta : TE} {w wa : M U}
theorem im_nil {os : Os} {as : SA} {u : U} {v : V} {H : Hp} (h : im F.G (rts as) (ban F os as) u v H) : im F.G (rts as) (ban F [] as) u v H := im_sub (fun a _ b => b.elim .inl fun b => b.elim (fun z => nomatch z) fun z => .inr (.inr z)) _ _ h
theorem im_go0 {as as' : SA} {H H' : Hp} (g : Go as as' H H') {u : U} {v : V} (h : im F.G (rts as) (ban F [] as) u v H) : im F.G (rts as') (ban F [] as') u v H' := im_go g h
theorem EvW.f (h : EvW F te δ w) : EvF F te δ w := fun os as st γ σ H a st' S q QQ k => h os as st γ σ H a st' S q QQ fun v H' as' g S' p => k v H' as' g S' (im_nil p)
theorem eaf_nil : EvAF F tNil δ nilA := fun os as st γ σ H us st' S q QQ k => by cases q; exact k [] H as (Go.refl _ _) S rfl
theorem eaf_cons {tr : TA} {wr : M (List U)} (ha : EvF F ta δ wa) (hr : EvAF F tr δ wr) : EvAF F (tCons ta tr) δ (consA wa wr) := fun os as st γ σ H us st' S q QQ k => by
  obtain ⟨a, st1, qa, q⟩ := M.bind_inv q
  obtain ⟨r, st2, qr, q⟩ := M.bind_inv q
  cases q
  exact ha os as st γ σ H a _ S qa _ fun x H1 as1 g1 S1 px => hr os as1 st1 γ σ H1 r _ S1 qr _ fun vs H2 as2 g2 S2 pv => k (x :: vs) H2 as2 (g1.trans g2) S2 ⟨x, vs, rfl, im_go0 g2 px, pv⟩
theorem ef_tup {t : TA} {wl : M (List U)} (h : EvAF F t δ wl) : EvF F (tTup t) δ (tupW wl) := fun os as st γ σ H c st' S q QQ k => by
  obtain ⟨us, st1, qa, q⟩ := M.bind_inv q
  obtain ⟨e, rfl⟩ := M.o_inv q
  by_cases hl : us.length ≤ sizeLine
  · rw [if_pos hl] at e
    cases e
    exact h os as st γ σ H us _ S qa _ fun vs H1 as1 g1 S1 pv => ⟨by rw [imAll_len pv]; exact hl, fun p hp => k _ _ as1 (g1.trans (Go.of_ex (Ex.new hp))) (S1.ex (Ex.new hp)) ⟨p, vs, rfl, upd_same, imAll_st (RB.of_ex (Ex.new hp)) _ _ pv⟩⟩
  · rw [if_neg hl] at e; cases e
theorem SDo.rt {os : Os} {as : SA} {st : Sto} {γ : List (U × V)} {H : Hp} {σ : L2.St} {u : U} {v : V} (S : SDo F os as st γ H σ δ) (h : im F.G (rts as) (ban F [] as) u v H) (hr : F.R as st H u v) : Rt F as st H u v :=
  ⟨S.rel, fun a b => S.ok a (b.elim .inl fun b => b.elim (fun z => nomatch z) fun z => .inr (.inr z)), (List.nodup_append.mp S.nd).2.1, fun a m => S.nb a (.inr m), StOk.mono (fun _ _ h => im_nil h) (fun _ _ h => h) (fun _ _ => rfl) S.sto, h, hr⟩
end
section
variable {F : Fr} {S S1 L : Type} {δ : Dl} {te ta tb : TE} {tt : TT} {w wa wb : M U} {wt : M Bool} {t t1 t2 u1 : TS} {δn : S → Dl} {δ1 : S1 → Dl} {δl : L → Dl}
theorem blk_last {wo : M (Out S L)} (h : Blk F (tSeq t tNext) δ wo δn δl) : Blk F t δ wo δn δl := h
theorem blk_end {s : S} (h : Weak δ (δn s)) : Blk F tNext δ (nxO s) δn δl := fun D os as st γ σ H o st' Q q P => by
  cases q; exact P os as σ H (Q.weak h)
theorem blk_ret (h : EvF F te δ w) (hR : F.R = noR := by rfl) : Blk F (tRet te) δ (rtO w : M (Out S L)) δn δl := fun D os as st γ σ H o st' Q q P => by
  obtain ⟨a, st1, qa, q⟩ := M.bind_inv q
  cases q
  exact h os as st γ σ H a _ Q qa _ fun v H1 as1 g1 S1 p => P as1 v H1 (S1.rt p (by rw [hR]; trivial))
theorem blk_seq {w1 : M (Out S1 L)} {w2 : S1 → M (Out S L)} (h1 : Blk F t1 δ w1 δ1 δl) (h2 : ∀ s, Blk F t2 (δ1 s) (w2 s) δn δl) : Blk F (tSeq t1 t2) δ (seqO w1 w2) δn δl := fun D os as st γ σ H o st' Q q P => by
  obtain ⟨o1, st1, q1, q⟩ := M.bind_inv q
  refine h1 _ os as st γ σ H o1 st1 Q q1 ?_
  cases o1 with
  | nx s => exact fun os2 as2 σ2 H2 S2 => h2 s D os2 as2 st1 γ σ2 H2 o st' S2 q P
  | rt u => cases q; exact P
  | bk l => cases q; exact P
  | ct l => cases q; exact P
theorem blk_if {wo wu : M (Out S L)} (h : EvT F tt δ wt) (h1 : Blk F t1 δ wo δn δl) (h2 : Blk F t2 δ wu δn δl) : Blk F (tIfS tt t1 t2) δ (iteW wt wo wu) δn δl := fun D os as st γ σ H o st' Q q P => by
  obtain ⟨b, st1, qb, q⟩ := M.bind_inv q
  refine h os as st γ σ H b _ Q qb _ fun H1 as1 g1 S1 => ?_
  cases b with
  | true => exact h1 D os as1 st1 γ σ H1 o st' S1 q P
  | false => exact h2 D os as1 st1 γ σ H1 o st' S1 q P
theorem blk_set {i : Nat} {k : U → M (Out S L)} (h : EvW F te δ w) (h2 : ∀ u, Blk F t2 (δ.set i (some (.im u))) (k u) δn δl) : Blk F (tSeq (tAsg te (gName i)) t2) δ (.bind w k) δn δl := fun D os as st γ σ H o st' Q q P => by
  obtain ⟨u, st1, qu, q⟩ := M.bind_inv q
  exact h os as st γ σ H u _ Q qu _ fun v H1 as1 g1 S1 p => h2 u D os as1 st1 γ _ H1 o st' (S1.set p) q P
end
end UX
namespace UX
open PySem PySem.Spec PyProof.Rows L2
open EL (Ex RB BOk Bn TK rAddU rMulU rSlU rEqU rNeU rLtU rLenQ rTupQ rListQ rReprD cut iSeqU)
structure WalkU (F : Fr) (J : It) (us : List U) (gh : List (U × V)) : Prop where
  goes : ∀ i os as st γ σ δ H, i < us.length → SDo F os as st (gh ++ γ) H σ δ → J.go i H
  stops : ∀ os as st γ σ δ H, SDo F os as st (gh ++ γ) H σ δ → J.stop us.length H
  yields : ∀ i os as st γ σ δ x H H' u, us[i]? = some u → SDo F os as st (gh ++ γ) H σ δ → J.yld i H x H' → Ex H H' ∧ im F.G (rts as) (ban F os as) u x H'
def Src (F : Fr) (wi : TI) (δ : Dl) (w : M (List U)) : Prop := ∀ os as st γ σ H us st', SDo F os as st γ H σ δ → w st = some (.ok us, st') → ∀ Q : It → Hp → Prop,
  (∀ J H' as' gh, Go as as' H H' → SDo F os as' st' (gh ++ γ) H' σ δ → WalkU F J us gh → Q J H') → wi σ H Q
section
variable {F : Fr} {os : Os} {as : SA} {st : Sto} {γ : List (U × V)} {H : Hp} {σ : L2.St} {δ : Dl}
theorem SDo.ghost (S : SDo F os as st γ H σ δ) {g : List (U × V)} (h : ∀ p ∈ g, im F.G (rts as) (ban F os as) p.1 p.2 H) : SDo F os as st (g ++ γ) H σ δ :=
  ⟨fun p m => (List.mem_append.mp m).elim (h p) (S.gh p), S.rel, S.ok, S.nd, S.ix, S.new, S.nb, S.sto, S.len, S.at_⟩
theorem SDo.unghost {g : List (U × V)} (S : SDo F os as st (g ++ γ) H σ δ) : SDo F os as st γ H σ δ :=
  ⟨fun p m => S.gh p (List.mem_append_right _ m), S.rel, S.ok, S.nd, S.ix, S.new, S.nb, S.sto, S.len, S.at_⟩
end
def itU : U → Option (List U)
  | .tup us => some us
  | .lst us => some us
  | .frl us => some us
  | _ => none
def rng1U : U → Option (List U)
  | .int n => if -(2 ^ 62) ≤ n ∧ n < 2 ^ 62 then some ((List.range n.toNat).map fun i => .int (i : Nat)) else none
  | _ => none
def rng2U : U → U → Option (List U)
  | .int a, .int b => if (-(2 ^ 62) ≤ a ∧ a < 2 ^ 62) ∧ (-(2 ^ 62) ≤ b ∧ b < 2 ^ 62) then some ((List.range (b - a).toNat).map fun i => .int (a + (i : Nat))) else none
  | _, _ => none
def itW (w : M U) : M (List U) := .bind w fun u => .o (itU u)
def rng1W (w : M U) : M (List U) := .bind w fun u => .o (rng1U u)
def rng2W (w w' : M U) : M (List U) := .bind w fun u => .bind w' fun u' => .o (rng2U u u')
section
variable {F : Fr} {δ : Dl} {te ta tb : TE} {w wa wb : M U}
theorem src_it (h : EvW F te δ w) : Src F (iSeqU F.G.K te) δ (itW w) := fun os as st γ σ H us st' S q Q k => by
  obtain ⟨u, st1, qu, q⟩ := M.bind_inv q
  obtain ⟨e, rfl⟩ := M.o_inv q
  have fin : ∀ st2 v H' as', Go as as' H H' → SDo F os as' st2 γ H' σ δ → im F.G (rts as') (ban F os as') u v H' → SDo F os as' st2 ([(u, v)] ++ γ) H' σ δ := fun st2 v H' as' g S' p => S'.ghost fun q m => by rw [List.mem_singleton] at m; rw [m]; exact p
  cases u <;> simp [itU] at e
  · subst e
    refine .inr (h os as st γ σ H _ _ S qu _ fun v H' as' g S' p => ?_)
    obtain ⟨a, vs, ev, hs, hv⟩ := id p
    refine ⟨a, ev, ⟨vs, EL.sqT_of hs⟩, k _ H' as' _ g (fin _ v H' as' g S' p) ⟨fun i os as st γ σ δ H hi S2 => ?_, fun os as st γ σ δ H S2 => ?_, fun i os as st γ σ δ x H H2 u e S2 y => ?_⟩⟩ <;> obtain ⟨a2, vs2, ev2, hs2, hv2⟩ := S2.gh _ List.mem_cons_self
    · rw [ev] at ev2; cases ev2
      exact walk_tup.goes i H (by rw [imAll_len hv2]; exact hi) (EL.sqT_of (K := F.G.K) hs2)
    · rw [ev] at ev2; cases ev2
      rw [← imAll_len hv2]
      exact walk_tup.stops H (EL.sqT_of (K := F.G.K) hs2)
    · rw [ev] at ev2; cases ev2
      obtain ⟨e1, e2⟩ := walk_tup.yields i H x H2 (by rw [imAll_len hv2]; exact getElem?_lt e) (EL.sqT_of (K := F.G.K) hs2) y
      subst e1
      refine ⟨Ex.refl _, ?_⟩
      obtain ⟨z, e3, e4⟩ := imAll_get hv2 e
      rw [e2] at e3; cases e3
      exact e4
  · subst e
    refine .inl (h os as st γ σ H _ _ S qu _ fun v H' as' g S' p => ?_)
    obtain ⟨a, vs, ev, nb, hs, hv⟩ := id p
    refine ⟨a, ev, ⟨vs, EL.sqL_of hs⟩, k _ H' as' _ g (fin _ v H' as' g S' p) ⟨fun i os as st γ σ δ H hi S2 => ?_, fun os as st γ σ δ H S2 => ?_, fun i os as st γ σ δ x H H2 u e S2 y => ?_⟩⟩ <;> obtain ⟨a2, vs2, ev2, nb2, hs2, hv2⟩ := S2.gh _ List.mem_cons_self
    · rw [ev] at ev2; cases ev2
      exact walk_list.goes i H (by rw [imAll_len hv2]; exact hi) (EL.sqL_of hs2)
    · rw [ev] at ev2; cases ev2
      rw [← imAll_len hv2]
      exact walk_list.stops H (EL.sqL_of hs2)
    · rw [ev] at ev2; cases ev2
      obtain ⟨e1, e2⟩ := walk_list.yields i H x H2 (by rw [imAll_len hv2]; exact getElem?_lt e) (EL.sqL_of hs2) y
      subst e1
      refine ⟨Ex.refl _, ?_⟩
      obtain ⟨z, e3, e4⟩ := imAll_get hv2 e
      rw [e2] at e3; cases e3
      exact e4
  · subst e
    refine .inl (h os as st γ σ H _ _ S qu _ fun v H' as' g S' p => ?_)
    obtain ⟨a, vs, ev, hs, hv⟩ := id p
    refine ⟨a, ev, ⟨vs, hs.sq⟩, k _ H' as' _ g (fin _ v H' as' g S' p) ⟨fun i os as st γ σ δ H hi S2 => ?_, fun os as st γ σ δ H S2 => ?_, fun i os as st γ σ δ x H H2 u e S2 y => ?_⟩⟩ <;> obtain ⟨a2, vs2, ev2, hs2, hv2⟩ := S2.gh _ List.mem_cons_self
    · rw [ev] at ev2; cases ev2
      exact walk_list.goes i H (by rw [imAll_len hv2]; exact hi) hs2.sq
    · rw [ev] at ev2; cases ev2
      rw [← imAll_len hv2]
      exact walk_list.stops H hs2.sq
    · rw [ev] at ev2; cases ev2
      obtain ⟨e1, e2⟩ := walk_list.yields i H x H2 (by rw [imAll_len hv2]; exact getElem?_lt e) hs2.sq y
      subst e1
      refine ⟨Ex.refl _, ?_⟩
      obtain ⟨z, e3, e4⟩ := imAll_get hv2 e
      rw [e2] at e3; cases e3
      exact e4
theorem rng_walk {lo : Int} {n : Nat} : WalkU F (Itr lo n) ((List.range n).map fun i => .int (lo + (i : Nat))) [] := by
  refine ⟨fun i os as st γ σ δ H hi S2 => walk_range.goes i H (by simpa using hi) trivial, fun os as st γ σ δ H S2 => ?_, fun i os as st γ σ δ x H H2 u e S2 y => ?_⟩
  · rw [List.length_map, List.length_range]; exact walk_range.stops H trivial
  · have hi : i < n := by have := getElem?_lt e; simpa using this
    obtain ⟨e1, e2⟩ := walk_range.yields i H x H2 hi trivial y
    subst e1 e2
    refine ⟨Ex.refl _, ?_⟩
    rw [List.getElem?_map, List.getElem?_range hi] at e
    cases e
    rfl
theorem src_range1 (h : EvR F ta δ w) : Src F (iRng1 (tCons ta tNil)) δ (rng1W w) := fun os as st γ σ H us st' S q Q k => by
  obtain ⟨u, st1, qu, q⟩ := M.bind_inv q
  obtain ⟨e, rfl⟩ := M.o_inv q
  cases u with
  | int n => ?_
  | _ => cases e
  simp only [rng1U] at e
  split at e
  case isFalse => cases e
  rename_i hc
  cases e
  refine h os as st γ σ H _ _ S qu _ fun v H' as' g S' p => ⟨n, by rw [show v = _ from p], by omega, by omega, k _ H' as' [] g S' ?_⟩
  have := rng_walk (F := F) (lo := 0) (n := n.toNat)
  simp only [Int.zero_add] at this
  exact this
end
def wipD (δ : Dl) : List Nat → Dl
  | [] => δ
  | v :: vs => (wipD δ vs).set v none
def TgOk (F : Fr) (g : TG) (vs : List Nat) (δ : Dl) (u : U) (δ' : Dl) : Prop := wipD δ' vs = wipD δ vs ∧ ∀ os as st γ H σ v, SDo F os as st γ H σ δ → im F.G (rts as) (ban F os as) u v H → ∀ Q : L2.St → Hp → Prop, (∀ σ', wipe σ' vs = wipe σ vs → SDo F os as st γ H σ' δ' → Q σ' H) → g v σ H Q
section
variable {F : Fr} {δ : Dl} {u a b c : U}
theorem wipe_set (σ : L2.St) (i : Nat) (o : Option V) : ∀ vs : List Nat, i ∈ vs → wipe (σ.set i o) vs = wipe σ vs
  | [], h => nomatch h
  | v :: vs, h => by
    show (wipe (σ.set i o) vs).set v none = (wipe σ vs).set v none
    by_cases z : i ∈ vs
    · rw [wipe_set σ i o vs z]
    · have e : i = v := by
        rcases List.mem_cons.mp h with e | e
        · exact e
        · exact absurd e z
      subst e
      have : ∀ (σ : L2.St) (vs : List Nat), i ∉ vs → wipe (σ.set i o) vs = (wipe σ vs).set i o := by
        intro σ vs
        induction vs with
        | nil => intro _; rfl
        | cons w ws ih =>
          intro n
          show (wipe (σ.set i o) ws).set w none = ((wipe σ ws).set w none).set i o
          rw [ih fun m => n (List.mem_cons_of_mem _ m), List.set_comm _ _ (fun z => n (by rw [z]; exact List.mem_cons_self))]
      rw [this σ vs z, List.set_set]
theorem wipD_set (σ : Dl) (i : Nat) (o : Option SV) : ∀ vs : List Nat, i ∈ vs → wipD (σ.set i o) vs = wipD σ vs
  | [], h => nomatch h
  | v :: vs, h => by
    show (wipD (σ.set i o) vs).set v none = (wipD σ vs).set v none
    by_cases z : i ∈ vs
    · rw [wipD_set σ i o vs z]
    · have e : i = v := by
        rcases List.mem_cons.mp h with e | e
        · exact e
        · exact absurd e z
      subst e
      have : ∀ (σ : Dl) (vs : List Nat), i ∉ vs → wipD (σ.set i o) vs = (wipD σ vs).set i o := by
        intro σ vs
        induction vs with
        | nil => intro _; rfl
        | cons w ws ih =>
          intro n
          show (wipD (σ.set i o) ws).set w none = ((wipD σ ws).set w none).set i o
          rw [ih fun m => n (List.mem_cons_of_mem _ m), List.set_comm _ _ (fun z => n (by rw [z]; exact List.mem_cons_self))]
      rw [this σ vs z, List.set_set]
theorem tg_name {i : Nat} {vs : List Nat} (h : i ∈ vs) : TgOk F (gName i) vs δ u (δ.set i (some (.im u))) := ⟨wipD_set _ _ _ _ h, fun os as st γ H σ v S p Q k => k _ (wipe_set _ _ _ _ h) (S.set p)⟩
theorem tg_two {i j : Nat} {vs : List Nat} (hi : i ∈ vs) (hj : j ∈ vs) : TgOk F (gTup F.G.K 2 (gCons (gName i) (gCons (gName j) gNil))) vs δ (.tup [a, b]) ((δ.set i (some (.im a))).set j (some (.im b))) := ⟨by rw [wipD_set _ _ _ _ hj, wipD_set _ _ _ _ hi], fun os as st γ H σ v S ⟨p, xs, e, hs, v1, r1, e1, h1, v2, r2, e2, h2, e3⟩ Q k => by
  subst e e1 e2; cases (show r2 = [] from e3)
  exact ⟨p, _, rfl, EL.sqT_of hs, rfl, v1, _, rfl, v2, _, rfl, rfl, k _ (by rw [wipe_set _ _ _ _ hj, wipe_set _ _ _ _ hi]) ((S.set (x := .im a) h1).set (x := .im b) h2)⟩⟩
theorem tg_three {i j l : Nat} {vs : List Nat} (hi : i ∈ vs) (hj : j ∈ vs) (hl : l ∈ vs) : TgOk F (gTup F.G.K 3 (gCons (gName i) (gCons (gName j) (gCons (gName l) gNil)))) vs δ (.tup [a, b, c]) (((δ.set i (some (.im a))).set j (some (.im b))).set l (some (.im c))) := ⟨by rw [wipD_set _ _ _ _ hl, wipD_set _ _ _ _ hj, wipD_set _ _ _ _ hi], fun os as st γ H σ v S ⟨p, xs, e, hs, v1, r1, e1, h1, v2, r2, e2, h2, v3, r3, e3, h3, e4⟩ Q k => by
  subst e e1 e2 e3; cases (show r3 = [] from e4)
  exact ⟨p, _, rfl, EL.sqT_of hs, rfl, v1, _, rfl, v2, _, rfl, v3, _, rfl, rfl, k _ (by rw [wipe_set _ _ _ _ hl, wipe_set _ _ _ _ hj, wipe_set _ _ _ _ hi]) (((S.set (x := .im a) h1).set (x := .im b) h2).set (x := .im c) h3)⟩⟩
end
section
variable {F : Fr} {S L : Type} {δ : Dl} {wi : TI} {g : TG} {tb : TS} {wl : M (List U)} {δl : S → Dl} {δ2 : L → Dl}
theorem blk_for {vs : List Nat} {f : U → S → M (Out S S)} {s0 : S} (hs : Src F wi δ wl) (h0 : Weak δ (δl s0))
    (hb : ∀ u s st r, f u s st = some r → ∃ δ', TgOk F g vs (δl s) u δ' ∧ Blk F tb δ' (f u s) δl δl) : Blk F (tFor wi g tb) δ (.bind wl fun us => forO f us s0) δl δ2 := fun D os as st γ σ H o st' Q q P => by
  obtain ⟨us, st1, qs, q⟩ := M.bind_inv q
  refine hs os as st γ σ H us _ Q qs _ fun J H1 as1 gh g1 S1 W => ?_
  refine ⟨fun i m σ Hc => m = us.length - i ∧ i ≤ us.length ∧ ∃ os2 as2 st2 s, SDo F os2 as2 st2 (gh ++ γ) Hc σ (δl s) ∧ forO (L := L) f (us.drop i) s st2 = some (.ok o, st'), ⟨us.length, by simp, Nat.zero_le _, os, as1, st1, s0, S1.weak h0, by rw [List.drop_zero]; exact q⟩, ?_⟩
  rintro i m σ2 Hc ⟨rfl, hi, os2, as2, st2, s, S2, q2⟩
  by_cases hlt : i < us.length
  · right
    refine ⟨W.goes i os2 as2 st2 γ σ2 _ Hc hlt S2, ?_⟩
    have ed : us.drop i = us[i] :: us.drop (i + 1) := List.drop_eq_getElem_cons hlt
    rw [ed, forO] at q2
    obtain ⟨o1, st3, q3, q2⟩ := M.bind_inv q2
    obtain ⟨δ', tg, bk⟩ := hb us[i] s st2 _ q3
    refine ⟨fun σ' H' => ∃ m', m' < us.length - i ∧ m' = us.length - (i + 1) ∧ i + 1 ≤ us.length ∧ ∃ os2 as2 st2 s, SDo F os2 as2 st2 (gh ++ γ) H' σ' (δl s) ∧ forO (L := L) f (us.drop (i + 1)) s st2 = some (.ok o, st'), fun σ' H' ⟨m', h1, h2, h3⟩ => ⟨m', h1, h2, h3⟩, fun x H' y => ?_⟩
    obtain ⟨ex, px⟩ := W.yields i os2 as2 st2 γ σ2 _ x Hc H' us[i] (List.getElem?_eq_getElem hlt) S2 y
    refine tg.2 os2 as2 st2 (gh ++ γ) H' σ2 x (S2.ex ex) px _ fun σ3 _ S3 => bk _ os2 as2 st2 (gh ++ γ) σ3 H' o1 st3 S3 q3 ?_
    cases o1 with
    | nx s' => exact fun os4 as4 σ4 H4 S4 => ⟨us.length - (i + 1), by omega, rfl, hlt, os4, as4, st3, s', S4, q2⟩
    | ct s' => exact fun os4 as4 σ4 H4 S4 => ⟨us.length - (i + 1), by omega, rfl, hlt, os4, as4, st3, s', S4, q2⟩
    | bk s' =>
      cases q2
      exact fun os4 as4 σ4 H4 S4 => P os4 as4 σ4 H4 S4.unghost
    | rt u =>
      cases q2
      exact P
  · left
    have e : i = us.length := by omega
    subst e
    rw [List.drop_length] at q2
    cases q2
    exact ⟨W.stops os2 as2 _ γ σ2 _ Hc S2, P os2 as2 σ2 Hc S2.unghost⟩
theorem blk_while {tc : TT} {c : S → M Bool} {b : S → M (Out S S)} {s0 : S} (h0 : Weak δ (δl s0)) (hc : ∀ s, EvT F tc (δl s) (c s)) (hb : ∀ s, Blk F tb (δl s) (b s) δl δl) : Blk F (tWhile tc tb) δ (whileO c b s0) δl δ2 := fun D os as st γ σ H o st' Q q P => by
  obtain ⟨n, q⟩ := whileO_inv q
  refine ⟨fun m σ Hc => ∃ os2 as2 st2 s, SDo F os2 as2 st2 γ Hc σ (δl s) ∧ whileN (L := L) c b m s st2 = some (.ok o, st'), ⟨n, os, as, st, s0, Q.weak h0, q⟩, ?_⟩
  rintro m σ2 Hc ⟨os2, as2, st2, s, S2, q2⟩
  cases m with
  | zero => cases q2
  | succ m =>
    rw [whileN] at q2
    obtain ⟨t, st3, qt, q2⟩ := M.bind_inv q2
    refine hc s os2 as2 st2 γ σ2 Hc t _ S2 qt _ fun H3 as3 g3 S3 => ?_
    cases t with
    | false => cases q2; exact P os2 as3 σ2 H3 S3
    | true =>
      simp only [if_true] at q2 ⊢
      obtain ⟨o1, st4, q3, q2⟩ := M.bind_inv q2
      refine ⟨fun σ' H' => ∃ m', m' < m + 1 ∧ ∃ os2 as2 st2 s, SDo F os2 as2 st2 γ H' σ' (δl s) ∧ whileN (L := L) c b m' s st2 = some (.ok o, st'), fun σ' H' h => h, ?_⟩
      refine hb s _ os2 as3 st3 γ σ2 H3 o1 st4 S3 q3 ?_
      cases o1 with
      | nx s' => exact fun os4 as4 σ4 H4 S4 => ⟨m, Nat.lt_succ_self m, os4, as4, st4, s', S4, q2⟩
      | ct s' => exact fun os4 as4 σ4 H4 S4 => ⟨m, Nat.lt_succ_self m, os4, as4, st4, s', S4, q2⟩
      | bk s' =>
        cases q2
        exact fun os4 as4 σ4 H4 S4 => P os4 as4 σ4 H4 S4
      | rt u =>
        cases q2
        exact P
end
section
variable {F : Fr} {S L : Type} {δ : Dl} {te : TE} {w : M U} {t2 : TS} {δn : S → Dl} {δl : L → Dl}
theorem blk_tg {g : TG} {vs : List Nat} {k : U → M (Out S L)} (h : EvW F te δ w) (h2 : ∀ u st r, k u st = some r → ∃ δ', TgOk F g vs δ u δ' ∧ Blk F t2 δ' (k u) δn δl) : Blk F (tSeq (tAsg te g) t2) δ (.bind w k) δn δl := fun D os as st γ σ H o st' Q q P => by
  obtain ⟨u, st1, qu, q⟩ := M.bind_inv q
  refine h os as st γ σ H u _ Q qu _ fun v H1 as1 g1 S1 p => ?_
  obtain ⟨δ', tg, bk⟩ := h2 u st1 _ q
  exact tg.2 os as1 st1 γ H1 σ v S1 p _ fun σ' _ S2 => bk D os as1 st1 γ σ' H1 o st' S2 q P
theorem pat2 {α : Type} {P : Dl → M α → Prop} {i j : Nat} {vs : List Nat} (hi : i ∈ vs) (hj : j ∈ vs) {k : U → U → M α} (h : ∀ a b, P ((δ.set i (some (.im a))).set j (some (.im b))) (k a b)) : ∀ u st r, un2 u k st = some r → ∃ δ', TgOk F (gTup F.G.K 2 (gCons (gName i) (gCons (gName j) gNil))) vs δ u δ' ∧ P δ' (un2 u k) := by
  intro u st r e
  cases u <;> first | (cases e; done) | skip
  rename_i us
  match us, e with
  | [a, b], e => exact ⟨_, tg_two hi hj, h a b⟩
theorem pat3 {α : Type} {P : Dl → M α → Prop} {i j l : Nat} {vs : List Nat} (hi : i ∈ vs) (hj : j ∈ vs) (hl : l ∈ vs) {k : U → U → U → M α} (h : ∀ a b c, P (((δ.set i (some (.im a))).set j (some (.im b))).set l (some (.im c))) (k a b c)) : ∀ u st r, un3 u k st = some r → ∃ δ', TgOk F (gTup F.G.K 3 (gCons (gName i) (gCons (gName j) (gCons (gName l) gNil)))) vs δ u δ' ∧ P δ' (un3 u k) := by
  intro u st r e
  cases u <;> first | (cases e; done) | skip
  rename_i us
  match us, e with
  | [a, b, c], e => exact ⟨_, tg_three hi hj hl, h a b c⟩
end
def setOs (os : Os) (i : Nat) (A : List Addr) : Os := os.map fun p => if p.1 = i then (i, A) else p
section
variable {F : Fr} {os : Os} {as : SA} {st : Sto} {γ : List (U × V)} {H H' : Hp} {σ : L2.St} {δ : Dl} {i : Nat} {A A' : List Addr} {a : Addr}
theorem setOs_mem {p : Nat × List Addr} (h : p ∈ setOs os i A') : (p = (i, A') ∧ i ∈ os.map (·.1)) ∨ (p ∈ os ∧ p.1 ≠ i) := by
  obtain ⟨q, m, e⟩ := List.mem_map.mp h
  by_cases z : q.1 = i
  · rw [if_pos z] at e; exact .inl ⟨e.symm, List.mem_map.mpr ⟨q, m, z⟩⟩
  · rw [if_neg z] at e; subst e; exact .inr ⟨m, z⟩
theorem setOs_fst : (setOs os i A').map (·.1) = os.map (·.1) := by
  unfold setOs
  rw [List.map_map]
  apply List.map_congr_left
  intro p _
  show (if p.1 = i then (i, A') else p).1 = p.1
  split
  · rename_i h; exact h.symm
  · rfl
theorem setOs_flo {b : Addr} (h : b ∈ flo (setOs os i A')) : b ∈ A' ∨ b ∈ flo os := by
  obtain ⟨B, m, hb⟩ := List.mem_flatten.mp h
  obtain ⟨p, mp, rfl⟩ := List.mem_map.mp m
  rcases setOs_mem mp with ⟨e, _⟩ | ⟨m, _⟩
  · rw [e] at hb; exact .inl hb
  · exact .inr (mem_flo (i := p.1) (A := p.2) m hb)
theorem setOs_nodup (ix : (os.map (·.1)).Nodup) (m : (i, A) ∈ os) (nd : (flo os).Nodup) (nd' : A'.Nodup) (fr : ∀ b ∈ A', b ∈ A ∨ b ∉ flo os) : (flo (setOs os i A')).Nodup := by
  induction os with
  | nil => exact List.nodup_nil
  | cons p os ih =>
    have ix' := List.nodup_cons.mp (show (p.1 :: os.map (·.1)).Nodup from ix)
    have nd2 := List.nodup_append.mp (show (p.2 ++ flo os).Nodup from nd)
    by_cases z : p.1 = i
    · have e1 : setOs (p :: os) i A' = (i, A') :: os := by
        unfold setOs
        rw [List.map_cons, if_pos z]
        congr 1
        have : ∀ q ∈ os, (if q.1 = i then (i, A') else q) = q := fun q mq => if_neg fun e => ix'.1 (by rw [z, ← e]; exact List.mem_map_of_mem mq)
        rw [List.map_congr_left this, List.map_id']
      have e2 : (i, A) = p := by
        rcases List.mem_cons.mp m with e | m
        · exact e
        · exact absurd (List.mem_map_of_mem (f := (·.1)) m) (by rw [← z]; exact ix'.1)
      rw [e1]
      show (A' ++ flo os).Nodup
      refine List.nodup_append.mpr ⟨nd', nd2.2.1, fun b mb c mc e => ?_⟩
      subst e
      rcases fr b mb with q | q
      · exact nd2.2.2 b (by rw [← e2]; exact q) b mc rfl
      · exact q (List.mem_append_right _ mc)
    · have e1 : setOs (p :: os) i A' = p :: setOs os i A' := by
        unfold setOs
        rw [List.map_cons, if_neg z]
      have m' : (i, A) ∈ os := by
        rcases List.mem_cons.mp m with e | m
        · exact absurd (by rw [← e]) z
        · exact m
      rw [e1]
      show (p.2 ++ flo (setOs os i A')).Nodup
      refine List.nodup_append.mpr ⟨nd2.1, ih ix'.2 m' nd2.2.1 fun b mb => (fr b mb).imp id fun q w => q (List.mem_append_right _ w), fun b mb c mc e => ?_⟩
      subst e
      rcases setOs_flo mc with q | q
      · rcases fr b q with w | w
        · exact nd2.2.2 b mb b (mem_flo m' w) rfl
        · exact w (List.mem_append_left _ mb)
      · exact nd2.2.2 b mb b q rfl
structure Chg (F : Fr) (os : Os) (as : SA) (H H' : Hp) (i : Nat) (A A' : List Addr) (a : Addr) : Prop where
  m : (i, A) ∈ os
  ha : a ∈ A
  kp : ∀ b o, H b = some o → b ≠ a → H' b = some o
  al : H' a ≠ none
  hA : ∀ b ∈ A', b ∈ A ∨ H b = none
  nd : A'.Nodup
  al' : ∀ b ∈ A', H' b ≠ none
  nt : ∀ xs, H a ≠ some (.tup xs)
  nf : ∀ o u, H a ≠ some (.frz o u)
theorem Chg.rb (c : Chg F os as H H' i A A' a) : RB (ban F os as) H H' := by
  have hb : ban F os as a := .inr (.inl (mem_flo c.m c.ha))
  refine ⟨fun b o n e => c.kp b o e (fun z => n (z ▸ hb)), fun b xs e => c.kp b _ e fun z => c.nt xs (z ▸ e), fun b o u e => c.kp b _ e fun z => c.nf o u (z ▸ e), fun b _ n => ?_⟩
  by_cases z : b = a
  · rw [z]; exact c.al
  · cases e : H b with
    | none => exact absurd e n
    | some o => rw [c.kp b o e z]; exact fun q => nomatch q
theorem Chg.ban (c : Chg F os as H H' i A A' a) : ∀ b, H b ≠ none → UX.ban F (setOs os i A') as b → UX.ban F os as b := fun b n h => by
  rcases h with h | h | h
  · exact .inl h
  · rcases setOs_flo h with q | q
    · rcases c.hA b q with w | w
      · exact .inr (.inl (mem_flo c.m w))
      · exact absurd w n
    · exact .inr (.inl q)
  · exact .inr (.inr h)
theorem Chg.im (c : Chg F os as H H' i A A' a) {u : U} {v : V} (h : UX.im F.G (rts as) (UX.ban F os as) u v H) : UX.im F.G (rts as) (UX.ban F (setOs os i A') as) u v H' := by
  have h1 : UX.im F.G (rts as) (fun b => UX.ban F (setOs os i A') as b ∨ UX.ban F os as b) u v H := im_sub (fun b n z => z.elim (c.ban b n) id) _ _ h
  exact im_sub (fun b _ z => .inl z) _ _ (im_st (c.rb.sub fun _ z => .inr z) _ _ h1)
theorem Chg.imAll (c : Chg F os as H H' i A A' a) : ∀ {us : List U} {vs : List V}, UX.imAll F.G (rts as) (UX.ban F os as) us vs H → UX.imAll F.G (rts as) (UX.ban F (setOs os i A') as) us vs H'
  | [], _, h => h
  | u :: us, _, ⟨v, w, e, h1, h2⟩ => ⟨v, w, e, c.im h1, c.imAll h2⟩
theorem SDo.mut (S : SDo F os as st γ H σ δ) (c : Chg F os as H H' i A A' a) {x : Option SV} (hx : ∀ s, x = some s → ∃ sh u v, s = .own sh u ∧ σ[i]? = some (some v) ∧ ownD F.G (rts as) (ban F (setOs os i A') as) sh u v H' A') : SDo F (setOs os i A') as st γ H' σ (δ.set i x) := by
  have tp : ∀ b xs, H b = some (.tup xs) → H' b = some (.tup xs) := fun b xs h => c.rb.tup _ _ h
  have na : ∀ b, b ∈ fl as → b ≠ a := fun b m z => (List.nodup_append.mp S.nd).2.2 a (mem_flo c.m c.ha) b m z.symm
  have kq : ∀ b, ban F os as b → b ≠ a → H' b = H b := fun b hb n => by
    cases e : H b with
    | none => exact absurd e (S.ok b hb)
    | some o => exact c.kp b o e n
  have nbA : ∀ b ∈ A', ¬ F.B b := fun b m z => by
    rcases c.hA b m with w | w
    · exact S.nb b (.inl (mem_flo c.m w)) z
    · exact S.ok b (.inl z) w
  refine ⟨fun p m => c.im (S.gh p m), ?_, fun b hb => ?_, ?_, by rw [setOs_fst]; exact S.ix, fun b hb => ?_, fun b z => ?_, StOk.mono (fun _ _ h => c.im h) tp (fun b m => kq b (.inr (.inr m)) (na b m)) S.sto, by rw [List.length_set]; exact S.len, fun j s e => ?_⟩
  · refine ⟨⟨fun b o n e => ?_, fun b xs e => ?_, fun b o u e => ?_, fun b _ n => ?_⟩, S.rel.pre, S.rel.new⟩
    · exact c.kp b o (S.rel.rb.keep b o n e) fun z => by rw [z, S.new a (mem_flo c.m c.ha)] at e; cases e
    · exact c.kp b _ (S.rel.rb.tup b xs e) fun z => by rw [z, S.new a (mem_flo c.m c.ha)] at e; cases e
    · exact c.kp b _ (S.rel.rb.frz b o u e) fun z => by rw [z, S.new a (mem_flo c.m c.ha)] at e; cases e
    · exact rb_alive c.rb (S.rel.alive n)
  · rcases hb with hb | hb | hb
    · exact rb_alive c.rb (S.ok b (.inl hb))
    · rcases setOs_flo hb with q | q
      · exact c.al' b q
      · exact rb_alive c.rb (S.ok b (.inr (.inl q)))
    · exact rb_alive c.rb (S.ok b (.inr (.inr hb)))
  · have nd := List.nodup_append.mp S.nd
    refine List.nodup_append.mpr ⟨setOs_nodup S.ix c.m nd.1 c.nd fun b m => (c.hA b m).imp id fun w q => S.ok b (.inr (.inl q)) w, nd.2.1, fun b mb d md e => ?_⟩
    subst e
    rcases setOs_flo mb with q | q
    · rcases c.hA b q with w | w
      · exact nd.2.2 b (mem_flo c.m w) b md rfl
      · exact S.ok b (.inr (.inr md)) w
    · exact nd.2.2 b q b md rfl
  · rcases setOs_flo hb with q | q
    · rcases c.hA b q with w | w
      · exact S.new b (mem_flo c.m w)
      · exact S.rel.fresh w
    · exact S.new b q
  · rcases z with z | z
    · rcases setOs_flo z with q | q
      · exact nbA b q
      · exact S.nb b (.inl q)
    · exact S.nb b (.inr z)
  · by_cases hj : i = j
    · subst hj
      have hl : i < δ.length := by have := getElem?_lt e; rwa [List.length_set] at this
      rw [List.getElem?_set_self hl] at e
      obtain ⟨sh, u, v, rfl, h1, h2⟩ := hx s (Option.some.inj e)
      exact ⟨v, h1, A', List.mem_map.mpr ⟨(i, A), c.m, if_pos rfl⟩, h2⟩
    · rw [List.getElem?_set_ne hj] at e
      obtain ⟨w, h1, h2⟩ := S.at_ j s e
      refine ⟨w, h1, ?_⟩
      match s, h2 with
      | .im u, h2 => exact c.im h2
      | .raw _, h2 => exact h2
      | .own sh u, ⟨B, m, h2⟩ =>
        refine ⟨B, List.mem_map.mpr ⟨(j, B), m, if_neg fun z => hj z.symm⟩, own_mono (fun _ _ h => c.im h) tp _ _ _ _ (fun b mb => kq b (.inr (.inl (mem_flo m mb))) fun z => ?_) h2⟩
        have key : ∀ (l : Os), (flo l).Nodup → (i, A) ∈ l → (j, B) ∈ l → i = j := by
          intro l
          induction l with
          | nil => intro _ m; cases m
          | cons r l ih =>
            intro nd m1 m2
            have nd' := List.nodup_append.mp (show (r.2 ++ flo l).Nodup from nd)
            rcases List.mem_cons.mp m1 with e1 | m1 <;> rcases List.mem_cons.mp m2 with e2 | m2
            · rw [← e1] at e2; exact (Prod.mk.inj e2).1.symm
            · exact absurd rfl (nd'.2.2 a (by rw [← e1]; exact c.ha) a (mem_flo m2 (z ▸ mb)))
            · exact absurd rfl (nd'.2.2 a (by rw [← e2]; exact z ▸ mb) a (mem_flo m1 c.ha))
            · exact ih nd'.2.1 m1 m2
        exact hj (key os (List.nodup_append.mp S.nd).1 c.m m)
theorem os_nodup : ∀ (l : Os), (flo l).Nodup → (i, A) ∈ l → A.Nodup := by
  intro l
  induction l with
  | nil => intro _ m; cases m
  | cons r l ih =>
    intro nd m1
    have nd' := List.nodup_append.mp (show (r.2 ++ flo l).Nodup from nd)
    rcases List.mem_cons.mp m1 with e1 | m1
    · rw [show A = r.2 by rw [← e1]]; exact nd'.1
    · exact ih nd'.2.1 m1
theorem chg_same {o o' : HO} (m : (i, A) ∈ os) (ha : a ∈ A) (S : SDo F os as st γ H σ δ) (e : H a = some o) (nt : ∀ xs, o ≠ .tup xs) (nf : ∀ x u, o ≠ .frz x u) : Chg F os as H (upd H a o') i A A a := by
  refine ⟨m, ha, fun b u eb n => ?_, ?_, fun b mb => .inl mb, os_nodup os (List.nodup_append.mp S.nd).1 m, fun b mb => ?_, fun xs z => ?_, fun x u z => ?_⟩
  · rw [upd_ne n]; exact eb
  · rw [upd_same]; exact fun z => nomatch z
  · by_cases z : b = a
    · rw [z, upd_same]; exact fun z => nomatch z
    · rw [upd_ne z]; exact S.ok b (.inr (.inl (mem_flo m mb)))
  · rw [e] at z; exact nt xs (Option.some.inj z)
  · rw [e] at z; exact nf x u (Option.some.inj z)
theorem setOs_same (ix : (os.map (·.1)).Nodup) (m : (i, A) ∈ os) : setOs os i A = os := by
  unfold setOs
  have : ∀ q ∈ os, (if q.1 = i then (i, A) else q) = q := fun q mq => by
    by_cases z : q.1 = i
    · rw [if_pos z]
      have key : ∀ (l : Os), (l.map (·.1)).Nodup → (i, A) ∈ l → q ∈ l → (i, A) = q := by
        intro l
        induction l with
        | nil => intro _ m; cases m
        | cons r l ih =>
          intro nd m1 m2
          have nd' := List.nodup_cons.mp (show (r.1 :: l.map (·.1)).Nodup from nd)
          rcases List.mem_cons.mp m1 with e1 | m1 <;> rcases List.mem_cons.mp m2 with e2 | m2
          · rw [e1, e2]
          · exact absurd (List.mem_map_of_mem (f := (·.1)) m2) (by rw [z, show i = r.1 by rw [← e1]]; exact nd'.1)
          · exact absurd (List.mem_map_of_mem (f := (·.1)) m1) (by rw [← z, e2]; exact nd'.1)
          · exact ih nd'.2 m1 m2
      exact key os ix m mq
    · rw [if_neg z]
  rw [List.map_congr_left this, List.map_id']
theorem SDo.reix {k k' : Nat} {B : List Addr} (S : SDo F ((k, B) :: os) as st γ H σ δ) (hk : δ.length ≤ k) (hk' : k' ∉ os.map (·.1)) : SDo F ((k', B) :: os) as st γ H σ δ := by
  refine ⟨S.gh, S.rel, S.ok, S.nd, List.nodup_cons.mpr ⟨hk', (List.nodup_cons.mp S.ix).2⟩, S.new, S.nb, S.sto, S.len, fun j s e => ?_⟩
  obtain ⟨w, h1, h2⟩ := S.at_ j s e
  refine ⟨w, h1, ?_⟩
  match s, h2 with
  | .im u, h2 => exact h2
  | .raw _, h2 => exact h2
  | .own sh u, ⟨C, m, h2⟩ =>
    refine ⟨C, ?_, h2⟩
    rcases List.mem_cons.mp m with z | m
    · have := getElem?_lt e
      have : j = k := (Prod.mk.inj z).1
      omega
    · exact List.mem_cons_of_mem _ m
end
def compM (wt : U → M Bool) (we : U → M U) : List U → M (List U)
  | [] => .ret []
  | x :: xs => .bind (wt x) fun b => if b = true then .bind (we x) fun u => .bind (compM wt we xs) fun r => .ret (u :: r) else compM wt we xs
def szU (us : List U) : Option U := if us.length ≤ sizeLine then some (.lst us) else none
def lcW (wl : M (List U)) (wt : U → M Bool) (we : U → M U) : M U := .bind wl fun us => .bind (compM wt we us) fun r => .o (szU r)
def noOwn (δ : Dl) (vs : List Nat) : Bool := vs.all fun (j : Nat) => match δ[j]? with
  | some (some (.own _ _)) => false
  | some (some (.raw _)) => false
  | _ => true
section
variable {F : Fr} {os : Os} {as as' : SA} {st st' : Sto} {γ : List (U × V)} {H H' : Hp} {σ : L2.St} {δ : Dl}
theorem SDo.wipe (S : SDo F os as st γ H σ δ) : ∀ vs : List Nat, SDo F os as st γ H (L2.wipe σ vs) (wipD δ vs)
  | [] => S
  | v :: vs => (SDo.wipe S vs).unset
theorem wipe_idem (σ : L2.St) (vs : List Nat) : L2.wipe (L2.wipe σ vs) vs = L2.wipe σ vs := by
  have key : ∀ (ws : List Nat), (∀ w ∈ ws, w ∈ vs) → L2.wipe (L2.wipe σ ws) vs = L2.wipe σ vs := by
    intro ws
    induction ws with
    | nil => intro _; rfl
    | cons w ws ih =>
      intro h
      show L2.wipe ((L2.wipe σ ws).set w none) vs = _
      rw [wipe_set _ _ _ _ (h w List.mem_cons_self), ih fun x m => h x (List.mem_cons_of_mem _ m)]
  exact key vs fun _ m => m
theorem wipD_idem (δ : Dl) (vs : List Nat) : wipD (wipD δ vs) vs = wipD δ vs := by
  have key : ∀ (ws : List Nat), (∀ w ∈ ws, w ∈ vs) → wipD (wipD δ ws) vs = wipD δ vs := by
    intro ws
    induction ws with
    | nil => intro _; rfl
    | cons w ws ih =>
      intro h
      show wipD ((wipD δ ws).set w none) vs = _
      rw [wipD_set _ _ _ _ (h w List.mem_cons_self), ih fun x m => h x (List.mem_cons_of_mem _ m)]
  exact key vs fun _ m => m
theorem wipD_len (δ : Dl) : ∀ vs : List Nat, (wipD δ vs).length = δ.length
  | [] => rfl
  | v :: vs => by show ((wipD δ vs).set v none).length = _; rw [List.length_set, wipD_len δ vs]
theorem wipD_ne (δ : Dl) {j : Nat} : ∀ vs : List Nat, j ∉ vs → (wipD δ vs)[j]? = δ[j]?
  | [], _ => rfl
  | v :: vs, h => by
    show ((wipD δ vs).set v none)[j]? = _
    rw [List.getElem?_set_ne (fun z => h (by rw [← z]; exact List.mem_cons_self)), wipD_ne δ vs fun m => h (List.mem_cons_of_mem _ m)]
theorem wipe_ne (σ : L2.St) {j : Nat} : ∀ vs : List Nat, j ∉ vs → (L2.wipe σ vs)[j]? = σ[j]?
  | [], _ => rfl
  | v :: vs, h => by
    show ((L2.wipe σ vs).set v none)[j]? = _
    rw [List.getElem?_set_ne (fun z => h (by rw [← z]; exact List.mem_cons_self)), wipe_ne σ vs fun m => h (List.mem_cons_of_mem _ m)]
def ghv (σ : L2.St) (δ : Dl) (vs : List Nat) : List (U × V) := vs.filterMap fun (j : Nat) => match δ[j]?, σ[j]? with
  | some (some (.im u)), some (some v) => some (u, v)
  | _, _ => none
theorem ghv_ok (S : SDo F os as st γ H σ δ) (vs : List Nat) : ∀ p ∈ ghv σ δ vs, im F.G (rts as) (ban F os as) p.1 p.2 H := fun p m => by
  obtain ⟨j, _, e⟩ := List.mem_filterMap.mp m
  split at e
  · rename_i u v e1 e2
    cases e
    obtain ⟨w, h1, h2⟩ := S.at_ j _ e1
    rw [e2] at h1; cases h1
    exact h2
  · cases e
theorem SDo.restore {g : List (U × V)} {vs : List Nat} {os0 : Os} {as0 : SA} {st0 : Sto} {γ0 : List (U × V)} {H0 : Hp} (S0 : SDo F os0 as0 st0 γ0 H0 σ δ) (no : noOwn δ vs = true) (S : SDo F os as st (ghv σ δ vs ++ γ) H (L2.wipe σ vs) (wipD δ vs)) : SDo F os as st γ H σ δ := by
  refine ⟨fun p m => S.gh p (List.mem_append_right _ m), S.rel, S.ok, S.nd, S.ix, S.new, S.nb, S.sto, S0.len, fun j s e => ?_⟩
  by_cases hj : j ∈ vs
  · have h1 := List.all_eq_true.mp no j hj
    rw [e] at h1
    match s, h1, e with
    | .im u, _, e =>
      obtain ⟨v, h2, _⟩ := S0.at_ j _ e
      refine ⟨v, h2, S.gh (u, v) (List.mem_append_left _ (List.mem_filterMap.mpr ⟨j, hj, ?_⟩))⟩
      simp only [e, h2]
  · obtain ⟨v, h1, h2⟩ := S.at_ j s (by rw [wipD_ne _ _ hj]; exact e)
    exact ⟨v, by rw [wipe_ne _ _ hj] at h1; exact h1, h2⟩
structure LS (F : Fr) (os : Os) (k0 : Nat) (D : Addr) (as : SA) (st : Sto) (γ : List (U × V)) (H : Hp) (σ : L2.St) (δ : Dl) (accU : List U) : Prop where
  S : SDo F ((k0, [D]) :: os) as st γ H σ δ
  a : ∃ acc, H D = some (.lst acc) ∧ imAll F.G (rts as) (ban F ((k0, [D]) :: os) as) accU acc H
variable {k0 : Nat} {D : Addr} {accU : List U}
theorem LS.go (l : LS F os k0 D as st γ H σ δ accU) {σ' : L2.St} {δ' : Dl} (g : Go as as' H H') (S : SDo F ((k0, [D]) :: os) as' st' γ H' σ' δ') : LS F os k0 D as' st' γ H' σ' δ' accU := by
  obtain ⟨acc, e, h⟩ := l.a
  refine ⟨S, acc, g.rb.keep _ _ (fun m => ?_) e, imAll_go g h⟩
  exact (List.nodup_append.mp l.S.nd).2.2 D (List.mem_append_left _ List.mem_cons_self) D m rfl
theorem LS.push (l : LS F os k0 D as st γ H σ δ accU) (hk : δ.length ≤ k0) {u : U} {y : V} (p : im F.G (rts as) (ban F ((k0, [D]) :: os) as) u y H) : ∃ acc, H D = some (.lst acc) ∧ acc.length = accU.length ∧ LS F os k0 D as st γ (upd H D (.lst (acc ++ [y]))) σ δ (accU ++ [u]) := by
  obtain ⟨acc, e, h⟩ := l.a
  have c : Chg F ((k0, [D]) :: os) as H (upd H D (.lst (acc ++ [y]))) k0 [D] [D] D := chg_same List.mem_cons_self List.mem_cons_self l.S e (fun _ z => nomatch z) (fun _ _ z => nomatch z)
  have S := l.S.mut c (x := none) (fun _ z => nomatch z)
  have hi := imAll_snoc (c.imAll h) (c.im p)
  rw [setOs_same l.S.ix List.mem_cons_self] at S hi
  rw [List.set_eq_of_length_le hk] at S
  exact ⟨acc, e, imAll_len h, S, _, upd_same, hi⟩
end
section
variable {F : Fr} {δ : Dl} {wi wi1 : TI} {g g1 : TG} {tt tt1 : TT} {te : TE} {vs vs1 : List Nat} {wl : M (List U)}
theorem go_new {as : SA} {H H1 : Hp} {D : Addr} {o : HO} {as0 : SA} {H0 : Hp} (g : Go as0 as H0 H) (hD : H0 D = none) : Go as0 as H0 (upd H D o) := by
  refine ⟨⟨fun b u n e => ?_, fun b xs e => ?_, fun b x u e => ?_, fun b m n => ?_⟩, g.pre, g.new⟩
  · rw [upd_ne (ne_of_none e hD)]; exact g.rb.keep b u n e
  · rw [upd_ne (ne_of_none e hD)]; exact g.rb.tup b xs e
  · rw [upd_ne (ne_of_none e hD)]; exact g.rb.frz b x u e
  · by_cases z : b = D
    · rw [z] at n; exact absurd hD n
    · rw [upd_ne z]; exact g.alive n
theorem en_lc {wt : U → M Bool} {we : U → M U} (no : noOwn δ vs = true) (hs : Src F wi δ wl)
    (hb : ∀ u st r, wt u st = some r → ∃ δ', TgOk F g vs (wipD δ vs) u δ' ∧ EvT F tt δ' (wt u) ∧ EvW F te δ' (we u)) : EvN F (.lst .leaf) (tLc wi g tt te vs) δ (lcW wl wt we) := fun os as st γ σ H c st' S q QQ k => by
  obtain ⟨us, st1, qs, q⟩ := M.bind_inv q
  obtain ⟨r, st2, qr, q⟩ := M.bind_inv q
  obtain ⟨e, rfl⟩ := M.o_inv q
  unfold szU at e
  by_cases hsz : r.length ≤ sizeLine
  case neg => rw [if_neg hsz] at e; cases e
  rw [if_pos hsz] at e
  cases e
  refine hs os as st (ghv σ δ vs ++ γ) σ H us st1 (S.ghost (ghv_ok S vs)) qs _ fun J H1 as1 gh g1 S1 W D hD => ?_
  obtain ⟨k0, hk0, hkl⟩ := nodup_fresh (os.map (·.1)) δ.length
  have S2 := S1.grow hk0 hD (Ex.new (o := .lst []) hD) (by rw [upd_same]; exact fun z => nomatch z)
  have hD0 : H D = none := g1.fresh hD
  have hkw : (wipD δ vs).length ≤ k0 := by rw [wipD_len]; exact hkl
  refine ⟨fun i m Hc => m = us.length - i ∧ i ≤ us.length ∧ ∃ as2 st2 accU rest, Go as as2 H Hc ∧ LS F os k0 D as2 st2 (gh ++ (ghv σ δ vs ++ γ)) Hc (L2.wipe σ vs) (wipD δ vs) accU ∧ compM wt we (us.drop i) st2 = some (.ok rest, st') ∧ accU ++ rest = r,
    ⟨us.length, by simp, Nat.zero_le _, as1, st1, [], r, go_new (H1 := H) g1 hD0, ⟨S2.wipe vs, [], upd_same, rfl⟩, by rw [List.drop_zero]; exact qr, rfl⟩, ?_⟩
  rintro i m Hc ⟨rfl, hi, as2, st2, accU, rest, g2, l2, q2, er⟩
  by_cases hlt : i < us.length
  · right
    refine ⟨W.goes i _ as2 st2 _ _ _ Hc hlt l2.S, fun H' => ∃ m', m' < us.length - i ∧ m' = us.length - (i + 1) ∧ i + 1 ≤ us.length ∧ ∃ as2 st2 accU rest, Go as as2 H H' ∧ LS F os k0 D as2 st2 (gh ++ (ghv σ δ vs ++ γ)) H' (L2.wipe σ vs) (wipD δ vs) accU ∧ compM wt we (us.drop (i + 1)) st2 = some (.ok rest, st') ∧ accU ++ rest = r, fun H' ⟨m', h1, h2, h3⟩ => ⟨m', h1, h2, h3⟩, fun x H' y => ?_⟩
    have ed : us.drop i = us[i] :: us.drop (i + 1) := List.drop_eq_getElem_cons hlt
    rw [ed, compM] at q2
    obtain ⟨b, st3, q3, q2⟩ := M.bind_inv q2
    obtain ⟨δ', tg, ht, he⟩ := hb us[i] st2 _ q3
    obtain ⟨ex, px⟩ := W.yields i _ as2 st2 _ _ _ x Hc H' us[i] (List.getElem?_eq_getElem hlt) l2.S y
    have gx : Go as2 as2 Hc H' := Go.of_ex ex
    have l3 := l2.go gx (l2.S.ex ex)
    refine tg.2 _ as2 st2 _ H' _ x l3.S px _ fun σ2 wq S3 => ⟨by rw [wq, wipe_idem], ?_⟩
    have back : ∀ {as4 : SA} {st4 : Sto} {H4 : Hp}, SDo F ((k0, [D]) :: os) as4 st4 (gh ++ (ghv σ δ vs ++ γ)) H4 σ2 δ' → SDo F ((k0, [D]) :: os) as4 st4 (gh ++ (ghv σ δ vs ++ γ)) H4 (L2.wipe σ vs) (wipD δ vs) := fun S4 => by
      have := S4.wipe vs
      rw [wq, wipe_idem, tg.1, wipD_idem] at this
      exact this
    refine ht _ as2 st2 _ σ2 H' b st3 S3 q3 _ fun H3 as3 g3 S4 => ?_
    cases b with
    | false => exact ⟨us.length - (i + 1), by omega, rfl, hlt, as3, st3, accU, rest, (g2.trans gx).trans g3, l3.go g3 (back S4), q2, er⟩
    | true =>
      simp only [if_true] at q2 ⊢
      obtain ⟨u, st5, q5, q2⟩ := M.bind_inv q2
      obtain ⟨r', st6, q6, q2⟩ := M.bind_inv q2
      cases q2
      refine he _ as3 st3 _ σ2 H3 u st5 S4 q5 _ fun y H5 as5 g5 S5 py => ?_
      obtain ⟨acc, e1, e2, l5⟩ := ((l3.go g3 (back S4)).go g5 (back S5)).push hkw py
      refine ⟨acc, e1, ?_, us.length - (i + 1), by omega, rfl, hlt, as5, st5, accU ++ [u], r', go_new (H1 := H) (((g2.trans gx).trans g3).trans g5) hD0, l5, q6, by rw [List.append_assoc]; exact er⟩
      rw [e2]
      rw [← er, List.length_append, List.length_cons] at hsz
      omega
  · left
    have e : i = us.length := by omega
    subst e
    rw [List.drop_length] at q2
    cases q2
    rw [List.append_nil] at er
    subst er
    refine ⟨W.stops _ as2 _ _ _ _ Hc l2.S, ?_⟩
    obtain ⟨acc, e1, h1⟩ := l2.a
    refine k _ Hc as2 [D] g2 (fun k hk => ?_) (own_lst.mpr ⟨D, acc, rfl, rfl, e1, h1⟩) fun a m => by rw [List.mem_singleton] at m; rw [m]; exact hD0
    have : SDo F ((k0, [D]) :: os) as2 _ γ Hc σ δ := SDo.restore (g := []) (vs := vs) S no l2.S.unghost
    exact this.reix hkl hk
end
def comp2M (wt : U → M Bool) (wl : U → M (List U)) (wt1 : U → U → M Bool) (we : U → U → M U) : List U → M (List U)
  | [] => .ret []
  | x :: xs => .bind (wt x) fun b => if b = true then .bind (wl x) fun ys => .bind (compM (wt1 x) (we x) ys) fun r1 => .bind (comp2M wt wl wt1 we xs) fun r => .ret (r1 ++ r) else comp2M wt wl wt1 we xs
def lc2W (w0 : M (List U)) (wt : U → M Bool) (wl : U → M (List U)) (wt1 : U → U → M Bool) (we : U → U → M U) : M U := .bind w0 fun us => .bind (comp2M wt wl wt1 we us) fun r => .o (szU r)
section
variable {F : Fr} {δ : Dl} {wi wi1 : TI} {g g1 : TG} {tt tt1 : TT} {te : TE} {vs vs1 : List Nat} {w0 : M (List U)}
end
end UX
namespace UX
open PySem PySem.Spec PyProof.Rows L2
open EL (Ex RB BOk Bn TK FnG okG)
theorem Weak.refl : ∀ δ : Dl, Weak δ δ
  | [] => trivial
  | none :: δ => Weak.refl δ
  | some x :: δ => ⟨rfl, Weak.refl δ⟩
theorem Weak.trans : ∀ {a b c : Dl}, Weak a b → Weak b c → Weak a c
  | [], [], [], _, _ => trivial
  | _ :: a, none :: b, none :: c, h, k => Weak.trans (a := a) (b := b) (c := c) h k
  | _ :: a, some _ :: b, none :: c, h, k => Weak.trans (a := a) (b := b) (c := c) h.2 k
  | _ :: a, some _ :: b, some _ :: c, h, k => ⟨h.1.trans k.1, Weak.trans (a := a) (b := b) (c := c) h.2 k.2⟩
  | _ :: a, none :: b, some _ :: c, _, k => nomatch k.1
  | [], [], _ :: _, _, k => k.elim
  | [], _ :: _, _, h, _ => h.elim
  | _ :: _, [], _, h, _ => nomatch h
  | _ :: _, none :: _, [], _, k => nomatch k
  | _ :: _, some _ :: _, [], _, k => nomatch k
theorem weak_set : ∀ (δ : Dl) (i : Nat), Weak δ (δ.set i none)
  | [], _ => trivial
  | x :: δ, 0 => Weak.refl δ
  | none :: δ, i + 1 => weak_set δ i
  | some _ :: δ, i + 1 => ⟨rfl, weak_set δ i⟩
theorem weak_wip (δ : Dl) : ∀ vs : List Nat, Weak δ (wipD δ vs)
  | [] => Weak.refl δ
  | v :: vs => (weak_wip δ vs).trans (weak_set _ v)
section
variable {F : Fr} {S S1 L : Type} {δ : Dl} {wi : TI} {g : TG} {tb t1 t2 t : TS} {wl : M (List U)} {δ2 : L → Dl} {δn : S → Dl} {δl : L → Dl} {tt : TT} {wt : M Bool}
theorem blk_fin (vs : List Nat) {s : S} (h : wipD δ vs = δn s) : Blk F tNext δ (nxO s) δn δl := blk_end (h ▸ weak_wip δ vs)
end
def spM (G : Cxt) (f : List U → M U) : Sp := fun vs H Q _ => ∃ (B : Bn) (as : SA) (st : Sto) (us : List U) (u : U) (st' : Sto),
  BOk (ban ⟨G, B, H, as, noR⟩ [] as) H ∧ (fl as).Nodup ∧ (∀ a ∈ fl as, ¬ B a) ∧ StOk G (ban ⟨G, B, H, as, noR⟩ [] as) (rts as) as st H ∧ imAll G (rts as) (ban ⟨G, B, H, as, noR⟩ [] as) us vs H ∧ f us st = some (.ok u, st') ∧
  ∀ as' v H', Rt ⟨G, B, H, as, noR⟩ as' st' H' u v → Q v H'
def stD (N : List Str) (us : List U) : Dl := us.map (fun u => some (.im u)) ++ List.replicate (N.length - us.length) none
theorem SDo.start {F : Fr} {st : Sto} {N : List Str} {us : List U} {vs : List V} (ok : BOk (ban F [] F.as0) F.H0) (nd : (fl F.as0).Nodup) (nb : ∀ a ∈ fl F.as0, ¬ F.B a) (sto : StOk F.G (ban F [] F.as0) (rts F.as0) F.as0 st F.H0) (h : imAll F.G (rts F.as0) (ban F [] F.as0) us vs F.H0) :
    SDo F [] F.as0 st [] F.H0 (start N vs) (stD N us) := by
  have hl := imAll_len h
  refine ⟨fun p m => (nomatch m), Go.refl _ _, ok, by simpa [flo] using nd, by simp, fun a m => (nomatch (show a ∈ ([] : List Addr) from m)), fun a z => z.elim (fun m => nomatch (show a ∈ ([] : List Addr) from m)) (nb a), sto, ?_, fun i s e => ?_⟩
  · unfold L2.start stD
    rw [List.length_append, List.length_append, List.length_map, List.length_map, List.length_replicate, List.length_replicate, hl]
  · unfold stD at e
    by_cases hi : i < us.length
    · rw [List.getElem?_append_left (by rw [List.length_map]; exact hi), List.getElem?_map, List.getElem?_eq_getElem hi] at e
      have e2 : SV.im us[i] = s := by simpa using e
      obtain ⟨v, h1, h2⟩ := imAll_get h (List.getElem?_eq_getElem hi)
      subst e2
      refine ⟨v, ?_, h2⟩
      unfold L2.start
      rw [List.getElem?_append_left (by rw [List.length_map, hl]; exact hi), List.getElem?_map, h1]
      rfl
    · rw [List.getElem?_append_right (by rw [List.length_map]; omega), List.getElem?_replicate] at e
      split at e <;> simp at e
def dnil (N : List Str) : Dl := List.replicate N.length none
section
variable {P : Program} {w : World} {K : PySem.W.Frag} {mg : Str → Option Value} {bs : Heap} {CX : CXT} {x qu : Str} {pa : Arguments} {bo : List Stmt} {sc : Scope} {dv : List V} {kw : List (Str × V)} {f : Addr} {fd : FuncData}
theorem fn_ok {at_ : Str → Addr} {N ps : List Str} {k : Nat} {fM : List U → M U} (Fd : FunD K x qu pa bo sc dv kw f fd) (Sc : FnScope N ps sc)
    (hlen : ∀ us st r, fM us st = some r → us.length = ps.length)
    (hb : ∀ (cv : Value) (A : Around) (o : List Env) (s : Shared) (H : Hp) (E : XK), A.guards = some [] → Room k (A.deeper (envOfC qu sc s.heap.objs.size f cv)) →
      ∃ t, PSs (cxOf CX P w K mg bs N qu sc f cv A o s H E) bo t ∧ ∀ B H0 as0 us st r, fM us st = some r → ∃ wo : M (Out Unit Unit), fM us = fnM wo ∧ Blk ⟨⟨K, at_⟩, B, H0, as0, noR⟩ t (stD N us) wo (fun _ => dnil N) (fun _ => dnil N)) :
    FnG P w K mg bs CX (k + 1) f fd ps (spM ⟨K, at_⟩ fM) := by
  refine okG Fd Sc (fun vs H Q E h => ?_) fun cv A o s H vs Q E gd rm hsp => ?_
  · obtain ⟨B, as, st, us, u, st', _, _, _, _, hi, hf, _⟩ := h
    rw [imAll_len hi]
    exact hlen us st _ hf
  · obtain ⟨B, as, st, us, u, st', ok, nd, nb, sto, hi, hf, kk⟩ := hsp
    obtain ⟨t, ht, hB⟩ := hb cv A o s H E gd rm
    refine ⟨t, ht, ?_⟩
    obtain ⟨wo, e, bl⟩ := hB B H as us st _ hf
    rw [e] at hf
    obtain ⟨o', st1, q1, q⟩ := M.bind_inv hf
    refine bl _ [] as st [] _ H o' st1 (SDo.start (F := ⟨⟨K, at_⟩, B, H, as, noR⟩) ok nd nb sto hi) q1 ?_
    cases o' with
    | rt u' => cases q; exact fun as' v H' r => kk as' v H' r
    | nx _ => cases q; exact fun os as' σ H' S => kk as' _ H' (S.rt rfl trivial)
    | bk _ => cases q
    | ct _ => cases q
end
section
variable {α : Type}
def L0 (f : M U) : List U → M U
  | [] => f
  | _ => .fail
def L1 (f : U → M U) : List U → M U
  | [a] => f a
  | _ => .fail
def L2' (f : U → U → M U) : List U → M U
  | [a, b] => f a b
  | _ => .fail
def L3 (f : U → U → U → M U) : List U → M U
  | [a, b, c] => f a b c
  | _ => .fail
def L4 (f : U → U → U → U → M U) : List U → M U
  | [a, b, c, d] => f a b c d
  | _ => .fail
def L5 (f : U → U → U → U → U → M U) : List U → M U
  | [a, b, c, d, e] => f a b c d e
  | _ => .fail
def L6 (f : U → U → U → U → U → U → M U) : List U → M U
  | [a, b, c, d, e, g] => f a b c d e g
  | _ => .fail
def L7 (f : U → U → U → U → U → U → U → M U) : List U → M U
  | [a, b, c, d, e, g, h] => f a b c d e g h
  | _ => .fail
variable {P : List U → Prop}
theorem ar1 {f : U → M U} (h : ∀ a, P [a]) : ∀ us st r, L1 f us st = some r → P us
  | [a], _, _, _ => h a
  | [], _, _, e => nomatch e
  | _ :: _ :: _, _, _, e => nomatch e
theorem ar2 {f : U → U → M U} (h : ∀ a b, P [a, b]) : ∀ us st r, L2' f us st = some r → P us
  | [a, b], _, _, _ => h a b
  | [], _, _, e => nomatch e
  | [_], _, _, e => nomatch e
  | _ :: _ :: _ :: _, _, _, e => nomatch e
theorem ar3 {f : U → U → U → M U} (h : ∀ a b c, P [a, b, c]) : ∀ us st r, L3 f us st = some r → P us
  | [a, b, c], _, _, _ => h a b c
  | [], _, _, e => nomatch e
  | [_], _, _, e => nomatch e
  | [_, _], _, _, e => nomatch e
  | _ :: _ :: _ :: _ :: _, _, _, e => nomatch e
theorem ar4 {f : U → U → U → U → M U} (h : ∀ a b c d, P [a, b, c, d]) : ∀ us st r, L4 f us st = some r → P us
  | [a, b, c, d], _, _, _ => h a b c d
  | [], _, _, e => nomatch e
  | [_], _, _, e => nomatch e
  | [_, _], _, _, e => nomatch e
  | [_, _, _], _, _, e => nomatch e
  | _ :: _ :: _ :: _ :: _ :: _, _, _, e => nomatch e
theorem ar6 {f : U → U → U → U → U → U → M U} (h : ∀ a b c d e g, P [a, b, c, d, e, g]) : ∀ us st r, L6 f us st = some r → P us
  | [a, b, c, d, e, g], _, _, _ => h a b c d e g
  | [], _, _, e => nomatch e
  | [_], _, _, e => nomatch e
  | [_, _], _, _, e => nomatch e
  | [_, _, _], _, _, e => nomatch e
  | [_, _, _, _], _, _, e => nomatch e
  | [_, _, _, _, _], _, _, e => nomatch e
  | _ :: _ :: _ :: _ :: _ :: _ :: _ :: _, _, _, e => nomatch e
theorem ar7 {f : U → U → U → U → U → U → U → M U} (h : ∀ a b c d e g i, P [a, b, c, d, e, g, i]) : ∀ us st r, L7 f us st = some r → P us
  | [a, b, c, d, e, g, i], _, _, _ => h a b c d e g i
  | [], _, _, e => nomatch e
  | [_], _, _, e => nomatch e
  | [_, _], _, _, e => nomatch e
  | [_, _, _], _, _, e => nomatch e
  | [_, _, _, _], _, _, e => nomatch e
  | [_, _, _, _, _], _, _, e => nomatch e
  | [_, _, _, _, _, _], _, _, e => nomatch e
  | _ :: _ :: _ :: _ :: _ :: _ :: _ :: _ :: _, _, _, e => nomatch e
end
section
variable {G : Cxt} {rs : List Addr} {B B' : Bn} {H : Hp}
end
def opq (st : Sto) : Sto := (List.range st.length).map fun i => U.loc i
def callM (f : List U → M U) (wa : M (List U)) : M U := .bind wa f
section
variable {F : Fr} {δ : Dl} {ta : TA} {wa : M (List U)} {E : XK} {f : List U → M U}
theorem SDo.enter {os : Os} {as : SA} {st : Sto} {γ : List (U × V)} {H : Hp} {σ : L2.St} (S : SDo F os as st γ H σ δ) : BOk (ban ⟨F.G, fun a => F.B a ∨ a ∈ flo os, H, as, noR⟩ [] as) H ∧ (∀ a ∈ fl as, ¬ (F.B a ∨ a ∈ flo os)) ∧ (∀ a, ban ⟨F.G, fun a => F.B a ∨ a ∈ flo os, H, as, noR⟩ [] as a ↔ ban F os as a) := by
  have e : ∀ a, ban ⟨F.G, fun a => F.B a ∨ a ∈ flo os, H, as, noR⟩ [] as a ↔ ban F os as a := fun a => by
    constructor
    · rintro ((h | h) | h | h)
      · exact .inl h
      · exact .inr (.inl h)
      · cases h
      · exact .inr (.inr h)
    · rintro (h | h | h)
      · exact .inl (.inl h)
      · exact .inl (.inr h)
      · exact .inr (.inr h)
  exact ⟨fun a b => S.ok a ((e a).mp b), fun a m z => z.elim (S.nb a (.inr m)) fun z => (List.nodup_append.mp S.nd).2.2 a z a m rfl, e⟩
theorem SDo.leave {os : Os} {as as' : SA} {st st' : Sto} {γ : List (U × V)} {H H' : Hp} {σ : L2.St} {u : U} {v : V} (S : SDo F os as st γ H σ δ) (r : Rt ⟨F.G, fun a => F.B a ∨ a ∈ flo os, H, as, noR⟩ as' st' H' u v) : SDo F os as' st' γ H' σ δ ∧ im F.G (rts as') (ban F os as') u v H' := by
  have e : ∀ a, ban F os as' a → ban ⟨F.G, fun a => F.B a ∨ a ∈ flo os, H, as, noR⟩ [] as' a := by
    rintro a (h | h | h)
    · exact .inl (.inl h)
    · exact .inl (.inr h)
    · exact .inr (.inr h)
  refine ⟨S.go r.rel r.nd (StOk.mono (fun _ _ h => im_sub (fun a _ b => e a b) _ _ h) (fun _ _ h => h) (fun _ _ => rfl) r.sto) fun a m => r.ok a (.inr (.inr m)), im_sub (fun a _ b => e a b) _ _ r.im⟩
theorem ev_call (h : EvAW F ta δ wa) : EvW F (tCall (spM F.G f) [] E ta) δ (callM f wa) := fun os as st γ σ H c st' S q QQ k => by
  obtain ⟨us, st1, qa, q⟩ := M.bind_inv q
  refine h os as st γ σ H us st1 S qa _ fun vs H1 as1 g1 S1 pv => ?_
  show spM F.G f (vs ++ []) H1 QQ E
  rw [List.append_nil]
  obtain ⟨ok, nb, e⟩ := S1.enter
  refine ⟨fun a => F.B a ∨ a ∈ flo os, as1, st1, us, c, st', ok, (List.nodup_append.mp S1.nd).2.1, nb, StOk.mono (fun _ _ h => im_sub (fun a _ b => (e a).mp b) _ _ h) (fun _ _ h => h) (fun _ _ => rfl) S1.sto, imAll_sub (fun a _ b => (e a).mp b) _ _ pv, q, fun as' v H' r => ?_⟩
  obtain ⟨S2, p⟩ := S1.leave r
  exact k v H' as' (g1.trans r.rel) S2 p
theorem StOk.opq {G : Cxt} {B : Bn} {H : Hp} (as : SA) (st : Sto) (h : as.length = st.length) : StOk G B (rts as) (as.map fun p => (p.1, [])) (opq st) H := by
  have key : ∀ (l : SA) (n m : Nat), l.length = m → (∀ i a, (rts l)[i]? = some a → (rts as)[n + i]? = some a) → StOk G B (rts as) (l.map fun p => (p.1, [])) ((List.range' n m).map fun i => U.loc i) H := by
    intro l
    induction l with
    | nil => intro n m e _; cases e; trivial
    | cons p l ih =>
      intro n m e hh
      cases m with
      | zero => cases e
      | succ m =>
        rw [List.range'_succ]
        refine ⟨⟨rfl, p.1, ?_, rfl⟩, ih (n + 1) m (by simpa using e) fun i a q => ?_⟩
        · have := hh 0 p.1 rfl
          simpa using this
        · have := hh (i + 1) a (by simpa [rts] using q)
          rw [show n + 1 + i = n + (i + 1) by omega]
          exact this
  have := key as 0 st.length h fun i a q => by rw [Nat.zero_add]; exact q
  rw [← List.range_eq_range'] at this
  exact this
theorem fl_opq (as : SA) : fl (as.map fun p => (p.1, ([] : List Addr))) = [] := by
  unfold fl
  rw [List.map_map]
  induction as with
  | nil => rfl
  | cons p as ih => rw [List.map_cons, List.flatten_cons, ih]; rfl
theorem rts_opq (as : SA) : rts (as.map fun p => (p.1, ([] : List Addr))) = rts as := by
  unfold rts
  rw [List.map_map]
  rfl
end
end UX
namespace UX
open PySem PySem.Spec PyProof.Rows L2
open EL (Ex RB BOk Bn TK rEqU rNeU rLtU iSeqU)
abbrev Hl := U × (U → U)
structure Hole (F : Fr) (os : Os) (as : SA) (i : Nat) (S : Sh) (σ : L2.St) (H : Hp) (s : Sh) (h : Hl) (v : V) : Prop where
  ex : ∃ A A1 A' A2 v0, (i, A) ∈ os ∧ σ[i]? = some (some v0) ∧ A = A1 ++ (A' ++ A2) ∧ ownD F.G (rts as) (ban F os as) s h.1 v H A' ∧
    ∀ rs2 B2 H2 u2 A'2, (∀ u v, im F.G (rts as) (ban F os as) u v H → im F.G rs2 B2 u v H2) → (∀ a xs, H a = some (.tup xs) → H2 a = some (.tup xs)) → (∀ a, a ∈ A1 ∨ a ∈ A2 → H2 a = H a) →
      ownD F.G rs2 B2 s u2 v H2 A'2 → ownD F.G rs2 B2 S (h.2 u2) v0 H2 (A1 ++ (A'2 ++ A2))
section
variable {F : Fr} {os : Os} {as as' : SA} {st : Sto} {γ : List (U × V)} {i : Nat} {S s : Sh} {σ : L2.St} {H H' : Hp} {h : Hl} {v : V} {δ : Dl}
theorem Hole.go (hl : Hole F os as i S σ H s h v) (Q : SDo F os as st γ H σ δ) (g : Go as as' H H') : Hole F os as' i S σ H' s h v := by
  obtain ⟨A, A1, A', A2, v0, m, e0, eA, o, pl⟩ := hl.ex
  have al : ∀ a ∈ A, H a ≠ none := fun a z => Q.ok a (.inr (.inl (mem_flo m z)))
  have nf : ∀ a ∈ A, a ∉ fl as := fun a z q => (List.nodup_append.mp Q.nd).2.2 a (mem_flo m z) a q rfl
  have kp : ∀ a ∈ A, H' a = H a := fun a z => by
    cases e : H a with
    | none => exact absurd e (al a z)
    | some o => exact g.rb.keep a o (nf a z) e
  have inA : ∀ a ∈ A', a ∈ A := fun a z => by rw [eA]; exact List.mem_append_right _ (List.mem_append_left _ z)
  refine ⟨A, A1, A', A2, v0, m, e0, eA, own_go g o (fun a z => nf a (inA a z)) fun a z => al a (inA a z), fun rs2 B2 H2 u2 A'2 t1 t2 t3 o2 => ?_⟩
  exact pl rs2 B2 H2 u2 A'2 (fun u v z => t1 u v (im_go g z)) (fun a xs z => t2 a xs (sqT_go g z)) (fun a z => by rw [t3 a z, kp a (by rw [eA]; exact z.elim (fun z => List.mem_append_left _ z) fun z => List.mem_append_right _ (List.mem_append_right _ z))]) o2
def ixH (h : Hl) : U → Option Hl
  | .int n => match h.1 with
    | .lst us => match ixN us.length n with
      | some j => match us[j]? with
        | some u => some (u, fun x => h.2 (.lst (us.set j x)))
        | none => none
      | none => none
    | .tup us => match ixN us.length n with
      | some j => match us[j]? with
        | some u => some (u, fun x => h.2 (.tup (us.set j x)))
        | none => none
      | none => none
    | _ => none
  | _ => none
theorem ixN_eq {α : Type} {us : List α} {i : Int} {j : Nat} {x : α} (e : ixN us.length i = some j) (h : us[j]? = some x) : atI us i = some x := by
  unfold atI; rw [e]; exact h
end
def MutL (F : Fr) (r : V → List V → Hp → VK → Prop) (f : List U → List U → Option (U × List U)) : Prop := ∀ os as H a vs us xs ws p, H a = some (.lst vs) → imAll F.G (rts as) (ban F os as) us vs H → imAll F.G (rts as) (ban F os as) xs ws H → f us xs = some p →
  ∃ v vs', imAll F.G (rts as) (ban F os as) p.2 vs' H ∧ im F.G (rts as) (ban F os as) p.1 v H ∧ ∀ Q : VK, Q v (upd H a (.lst vs')) → r (.ref a) ws H Q
def popAtL : List U → List U → Option (U × List U)
  | us, [.int i] => if -(2 ^ 63) ≤ i ∧ i < 2 ^ 63 then match seqIndex? i us.length with
    | some k => match us[k]? with
      | some u => some (u, us.eraseIdx k)
      | none => none
    | none => none else none
  | _, _ => none
section
variable {F : Fr} {S L : Type} {δ : Dl} {i j : Nat} {Sh0 : Sh} {te tp tv ty : TE} {ta : TA} {t2 : TS} {δn : S → Dl} {δl : L → Dl}
theorem im1 {G : Cxt} {rs : List Addr} {B : Bn} {H : Hp} {x : U} {ws : List V} (h : imAll G rs B [x] ws H) : ∃ y, ws = [y] ∧ im G rs B x y H := by
  obtain ⟨y, r, e, h1, h2⟩ := h
  cases (show r = [] from h2)
  exact ⟨y, e, h1⟩
theorem mut_popAt : MutL F rPopAt popAtL := fun os as H a vs us xs ws p e h hx q => by
  rcases xs with _ | ⟨x, _ | ⟨x2, xs⟩⟩
  · cases q
  · obtain ⟨y, rfl, hy⟩ := im1 hx
    cases x with
    | int i =>
      cases (show y = _ from hy)
      simp only [popAtL] at q
      split at q
      · rename_i hc
        cases ek : seqIndex? i us.length with
        | none => rw [ek] at q; cases q
        | some k =>
          rw [ek] at q
          simp only at q
          cases eu : us[k]? with
          | none => rw [eu] at q; cases q
          | some u =>
            rw [eu] at q
            cases q
            obtain ⟨v, e1, e2⟩ := imAll_get h eu
            exact ⟨v, vs.eraseIdx k, imAll_erase k h, e2, fun Q kk => ⟨a, vs, i, k, v, rfl, rfl, e, hc.1, hc.2, by rw [imAll_len h]; exact ek, e1, kk⟩⟩
      · cases q
    | _ => cases q
  · cases x <;> cases q
theorem Hole.setL {os : Os} {as : SA} {st : Sto} {γ : List (U × V)} {σ : L2.St} {H : Hp} {h : Hl} {v : V} {us us' : List U} (hl : Hole F os as i Sh0 σ H (.lst .leaf) h v) (Q : SDo F os as st γ H σ δ) (eu : h.1 = .lst us) :
    ∃ a vs, v = .ref a ∧ H a = some (.lst vs) ∧ imAll F.G (rts as) (ban F os as) us vs H ∧ ∀ vs', imAll F.G (rts as) (ban F os as) us' vs' H → ∃ A, SDo F os as st γ (upd H a (.lst vs')) σ (δ.set i (some (.own Sh0 (h.2 (.lst us'))))) ∧ Chg F os as H (upd H a (.lst vs')) i A A a ∧ setOs os i A = os := by
  obtain ⟨A, A1, A', A2, v0, m, e0, eA, o, pl⟩ := hl.ex
  rw [eu] at o
  obtain ⟨a, vs, e1, e2, e3, q⟩ := own_lst.mp o
  refine ⟨a, vs, e1, e3, q, fun vs' h' => ?_⟩
  have ma : a ∈ A := by rw [eA, e2]; exact List.mem_append_right _ List.mem_cons_self
  have c : Chg F os as H (upd H a (.lst vs')) i A A a := chg_same m ma Q e3 (fun _ z => nomatch z) (fun _ _ z => nomatch z)
  have so := setOs_same Q.ix m
  refine ⟨A, ?_, c, so⟩
  have nd := os_nodup os (List.nodup_append.mp Q.nd).1 m
  rw [eA, e2] at nd
  have := Q.mut c (x := some (.own Sh0 (h.2 (.lst us')))) fun s es => by
    cases es
    refine ⟨_, _, v0, rfl, e0, ?_⟩
    rw [so]
    have := pl (rts as) (ban F os as) (upd H a (.lst vs')) (.lst us') A' (fun u v z => by have := c.im z; rw [so] at this; exact this) (fun b xs z => c.rb.tup _ _ z) (fun b z => upd_ne fun e => ?_) (own_lst.mpr ⟨a, vs', e1, e2, upd_same, by have := c.imAll h'; rw [so] at this; exact this⟩)
    · rw [eA]; exact this
    · subst e
      have nd' := List.nodup_append.mp nd
      rcases z with z | z
      · exact nd'.2.2 b z b List.mem_cons_self rfl
      · exact (List.nodup_cons.mp nd'.2.1).1 z
  rw [so] at this
  exact this
end
def leafU : U → Bool
  | .lst _ => false
  | .dct _ _ => false
  | .dcT _ _ => false
  | _ => true
def leafO (u : U) : Option U := if leafU u = true then some u else none
def flatO (u : U) : Option U := match u with
  | .lst us => if us.all leafU = true then some u else none
  | _ => none
section
variable {G : Cxt} {rs : List Addr} {B : Bn} {H : Hp}
theorem leaf_ownF {u : U} {v : V} {A : List Addr} (h : leafU u = true) : ownF G rs B u v H A ↔ A = [] ∧ im G rs B u v H := by
  cases u <;> first | (cases h; done) | exact Iff.rfl
theorem flat_ownFs : ∀ {us : List U} {vs : List V} {A : List Addr}, us.all leafU = true → (ownFs G rs B us vs H A ↔ A = [] ∧ imAll G rs B us vs H)
  | [], vs, A, _ => ⟨fun h => ⟨h.2, h.1⟩, fun h => ⟨h.2, h.1⟩⟩
  | u :: us, vs, A, h => by
    have h' := Bool.and_eq_true_iff.mp (show (leafU u && us.all leafU) = true from h)
    constructor
    · rintro ⟨v, r, A1, A2, e1, e2, h1, h2⟩
      obtain ⟨z1, q1⟩ := (leaf_ownF h'.1).mp h1
      obtain ⟨z2, q2⟩ := (flat_ownFs h'.2).mp h2
      exact ⟨by rw [e2, z1, z2]; rfl, v, r, e1, q1, q2⟩
    · rintro ⟨e, v, r, e1, h1, h2⟩
      exact ⟨v, r, [], [], e1, e, (leaf_ownF h'.1).mpr ⟨rfl, h1⟩, (flat_ownFs h'.2).mpr ⟨rfl, h2⟩⟩
end
def EvNF (F : Fr) (te : TE) (δ : Dl) (w : M U) : Prop := ∀ os as st γ σ H a st', SDo F os as st γ H σ δ → w st = some (.ok a, st') → ∀ QQ : VK, (∀ v H' as' A, Go as as' H H' → (∀ k, k ∉ os.map (·.1) → SDo F ((k, A) :: os) as' st' γ H' σ δ) → ownF F.G (rts as') (ban F ((0, A) :: os) as') a v H' A → (∀ a ∈ A, H a = none) → QQ v H') → te σ H QQ
def EvANF (F : Fr) (ta : TA) (δ : Dl) (w : M (List U)) : Prop := ∀ os as st γ σ H us st', SDo F os as st γ H σ δ → w st = some (.ok us, st') → ∀ QQ : List V → Hp → Prop, (∀ vs H' as' A, Go as as' H H' → (∀ k, k ∉ os.map (·.1) → SDo F ((k, A) :: os) as' st' γ H' σ δ) → ownFs F.G (rts as') (ban F ((0, A) :: os) as') us vs H' A → (∀ a ∈ A, H a = none) → QQ vs H') → ta σ H QQ
section
variable {F : Fr} {δ : Dl} {te : TE} {ta : TA} {w : M U} {wl : M (List U)}
theorem SDo.grow0 {os : Os} {as : SA} {st : Sto} {γ : List (U × V)} {H : Hp} {σ : L2.St} {k : Nat} (S : SDo F os as st γ H σ δ) (hk : k ∉ os.map (·.1)) : SDo F ((k, []) :: os) as st γ H σ δ := by
  refine ⟨S.gh, S.rel, S.ok, S.nd, List.nodup_cons.mpr ⟨hk, S.ix⟩, S.new, S.nb, S.sto, S.len, fun i s e => ?_⟩
  obtain ⟨v, h1, h2⟩ := S.at_ i s e
  refine ⟨v, h1, ?_⟩
  match s, h2 with
  | .im u, h2 => exact h2
  | .raw _, h2 => exact h2
  | .own sh u, ⟨A, m, h2⟩ => exact ⟨A, List.mem_cons_of_mem _ m, h2⟩
theorem enf_leaf (h : EvW F te δ w) : EvNF F te δ (.bind w fun u => .o (leafO u)) := fun os as st γ σ H c st' S q QQ k => by
  obtain ⟨u, st1, qu, q⟩ := M.bind_inv q
  obtain ⟨e, rfl⟩ := M.o_inv q
  unfold leafO at e
  by_cases hl : leafU u = true
  · rw [if_pos hl] at e
    cases e
    exact h os as st γ σ H _ _ S qu _ fun v H1 as1 g1 S1 p => k v H1 as1 [] g1 (fun k hk => S1.grow0 hk) ((leaf_ownF hl).mpr ⟨rfl, p⟩) (fun a m => nomatch m)
  · rw [if_neg hl] at e; cases e
theorem enf_flat (h : EvN F (.lst .leaf) te δ w) : EvNF F te δ (.bind w fun u => .o (flatO u)) := fun os as st γ σ H c st' S q QQ k => by
  obtain ⟨u, st1, qu, q⟩ := M.bind_inv q
  obtain ⟨e, rfl⟩ := M.o_inv q
  refine h os as st γ σ H u _ S qu _ fun v H1 as1 A g1 S1 p n => ?_
  cases u with
  | lst us => ?_
  | _ => cases e
  simp only [flatO] at e
  by_cases hl : us.all leafU = true
  · rw [if_pos hl] at e
    cases e
    obtain ⟨a, vs, e1, e2, h1, q⟩ := own_lst.mp p
    exact k v H1 as1 A g1 S1 ⟨a, vs, [], e1, e2, h1, (flat_ownFs hl).mpr ⟨rfl, q⟩⟩ n
  · rw [if_neg hl] at e; cases e
theorem eanf_nil : EvANF F tNil δ nilA := fun os as st γ σ H us st' S q QQ k => by
  cases q
  exact k [] H as [] (Go.refl _ _) (fun k hk => S.grow0 hk) ⟨rfl, rfl⟩ (fun a m => nomatch m)
theorem SDo.merge {os : Os} {as : SA} {st : Sto} {γ : List (U × V)} {H : Hp} {σ : L2.St} {k1 k2 k : Nat} {A1 A2 : List Addr} (S : SDo F ((k2, A2) :: (k1, A1) :: os) as st γ H σ δ) (h1 : δ.length ≤ k1) (h2 : δ.length ≤ k2) (hk : k ∉ os.map (·.1)) : SDo F ((k, A1 ++ A2) :: os) as st γ H σ δ := by
  have bb : ∀ a, ban F ((k, A1 ++ A2) :: os) as a ↔ ban F ((k2, A2) :: (k1, A1) :: os) as a := fun a => by
    rw [ban_cons, ban_cons, ban_cons, List.mem_append]
    constructor
    · rintro ((h | h) | h)
      · exact .inr (.inl h)
      · exact .inl h
      · exact .inr (.inr h)
    · rintro (h | h | h)
      · exact .inl (.inr h)
      · exact .inl (.inl h)
      · exact .inr h
  have up : ∀ u v, im F.G (rts as) (ban F ((k2, A2) :: (k1, A1) :: os) as) u v H → im F.G (rts as) (ban F ((k, A1 ++ A2) :: os) as) u v H := fun u v h => im_sub (fun a _ b => (bb a).mp b) _ _ h
  have fm : ∀ a, a ∈ flo ((k, A1 ++ A2) :: os) → a ∈ flo ((k2, A2) :: (k1, A1) :: os) := fun a m => by
    rw [flo_cons, List.mem_append, List.mem_append] at m
    rw [flo_cons, flo_cons, List.mem_append, List.mem_append]
    rcases m with (m | m) | m
    · exact .inr (.inl m)
    · exact .inl m
    · exact .inr (.inr m)
  refine ⟨fun p m => up _ _ (S.gh p m), S.rel, fun a b => S.ok a ((bb a).mp b), ?_, List.nodup_cons.mpr ⟨hk, (List.nodup_cons.mp (List.nodup_cons.mp S.ix).2).2⟩, fun a m => S.new a (fm a m), fun a z => S.nb a (z.imp (fm a) id), StOk.mono up (fun _ _ h => h) (fun _ _ => rfl) S.sto, S.len, fun i s e => ?_⟩
  · have nd : (A2 ++ (A1 ++ flo os) ++ fl as).Nodup := S.nd
    show (A1 ++ A2 ++ flo os ++ fl as).Nodup
    have pm : (A1 ++ A2 ++ flo os ++ fl as).Perm (A2 ++ (A1 ++ flo os) ++ fl as) := by
      rw [← List.append_assoc A2]
      exact ((List.perm_append_comm (l₁ := A1) (l₂ := A2)).append_right (flo os)).append_right (fl as)
    exact pm.nodup_iff.mpr nd
  · obtain ⟨v, q1, q2⟩ := S.at_ i s e
    refine ⟨v, q1, ?_⟩
    match s, q2 with
    | .im u, q2 => exact up _ _ q2
    | .raw _, q2 => exact q2
    | .own sh u, ⟨A, m, q2⟩ =>
      refine ⟨A, List.mem_cons_of_mem _ ?_, own_mono up (fun _ _ h => h) _ _ _ _ (fun _ _ => rfl) q2⟩
      have il := getElem?_lt e
      rcases List.mem_cons.mp m with z | m
      · have : i = k2 := (Prod.mk.inj z).1
        omega
      · rcases List.mem_cons.mp m with z | m
        · have : i = k1 := (Prod.mk.inj z).1
          omega
        · exact m
theorem eanf_cons {tr : TA} {wr : M (List U)} (h : EvNF F te δ w) (hr : EvANF F tr δ wr) : EvANF F (tCons te tr) δ (consA w wr) := fun os as st γ σ H us st' S q QQ k => by
  obtain ⟨a, st1, qa, q⟩ := M.bind_inv q
  obtain ⟨r, st2, qr, q⟩ := M.bind_inv q
  cases q
  refine h os as st γ σ H a _ S qa _ fun x H1 as1 A1 g1 S1 p1 n1 => ?_
  obtain ⟨k1, hk1, hl1⟩ := nodup_fresh (os.map (·.1)) δ.length
  refine hr _ as1 st1 γ σ H1 r _ (S1 k1 hk1) qr _ fun vs H2 as2 A2 g2 S2 p2 n2 => ?_
  obtain ⟨k2, hk2, hl2⟩ := nodup_fresh (((k1, A1) :: os).map (·.1)) δ.length
  refine k (x :: vs) H2 as2 (A1 ++ A2) (g1.trans g2) (fun k hk => (S2 k2 hk2).merge hl1 hl2 hk) ⟨x, vs, A1, A2, rfl, rfl, ?_, ?_⟩ fun a m => ?_
  · have S3 := S2 k2 hk2
    have al : ∀ a ∈ A1, H1 a ≠ none := fun a m => (S1 k1 hk1).ok a (.inr (.inl (List.mem_append_left _ m)))
    refine ownF_mono (fun u v z => ?_) _ _ _ (fun a m => ?_) p1
    · have z1 : im F.G (rts as1) (ban F ((k2, A2) :: (k1, A1) :: os) as1) u v H1 := im_sub (sub_cons n2) _ _ z
      have z2 := im_go (os := (k2, A2) :: (k1, A1) :: os) g2 z1
      refine im_sub (fun a _ b => ?_) _ _ z2
      rw [ban_cons, List.mem_append] at b
      rw [ban_cons, ban_cons]
      rcases b with (h | h) | h
      · exact .inr (.inl h)
      · exact .inl h
      · exact .inr (.inr h)
    · cases e : H1 a with
      | none => exact absurd e (al a m)
      | some o => exact g2.rb.keep a o (fun q => (List.nodup_append.mp (S1 k1 hk1).nd).2.2 a (List.mem_append_left _ m) a q rfl) e
  · refine ownFs_mono (fun u v z => im_sub (fun a _ b => ?_) _ _ z) _ _ _ (fun _ _ => rfl) p2
    rw [ban_cons, List.mem_append] at b
    rw [ban_cons, ban_cons]
    rcases b with (h | h) | h
    · exact .inr (.inl h)
    · exact .inl h
    · exact .inr (.inr h)
  · rcases List.mem_append.mp m with z | z
    · exact n1 a z
    · exact g1.fresh (n2 a z)
theorem enf_lst (h : EvANF F ta δ wl) : EvNF F (tLst ta) δ (lstW wl) := fun os as st γ σ H c st' S q QQ k => by
  obtain ⟨us, st1, qa, q⟩ := M.bind_inv q
  obtain ⟨e, rfl⟩ := M.o_inv q
  by_cases hl : us.length ≤ sizeLine
  · rw [if_pos hl] at e
    cases e
    refine h os as st γ σ H us _ S qa _ fun vs H1 as1 A g1 S1 pv n => ⟨by rw [ownFs_len pv]; exact hl, fun p hp => ?_⟩
    obtain ⟨k1, hk1, hl1⟩ := nodup_fresh (os.map (·.1)) δ.length
    obtain ⟨k2, hk2, hl2⟩ := nodup_fresh (((k1, A) :: os).map (·.1)) δ.length
    have S2 := (S1 k1 hk1).grow hk2 hp (Ex.new (o := .lst vs) hp) (by rw [upd_same]; exact fun z => nomatch z)
    have npA : ∀ a ∈ A, a ≠ p := fun a m z => by
      have := (S1 k1 hk1).ok a (.inr (.inl (List.mem_append_left _ m)))
      rw [z] at this; exact this hp
    have bb : ∀ a, ban F ((0, p :: A) :: os) as1 a → ban F ((k2, [p]) :: (k1, A) :: os) as1 a := fun a b => by
      rw [ban_cons, List.mem_cons] at b
      rw [ban_cons, ban_cons, List.mem_singleton]
      rcases b with (h | h) | h
      · exact .inl h
      · exact .inr (.inl h)
      · exact .inr (.inr h)
    refine k (.ref p) _ as1 (p :: A) (g1.trans (Go.of_ex (Ex.new hp))) (fun k hk => ?_) ⟨p, vs, A, rfl, rfl, upd_same, ?_⟩ fun a m => ?_
    · have := S2.merge (k := k) hl1 hl2 hk
      have pm : ∀ a, a ∈ A ++ [p] ↔ a ∈ p :: A := fun a => by rw [List.mem_append, List.mem_singleton, List.mem_cons]; exact Or.comm
      have cm : ∀ a, ban F ((k, p :: A) :: os) as1 a → ban F ((k, A ++ [p]) :: os) as1 a := fun a b => by
        rw [ban_cons] at b ⊢
        exact b.imp (pm a).mpr id
      have up : ∀ u v, im F.G (rts as1) (ban F ((k, A ++ [p]) :: os) as1) u v (upd H1 p (.lst vs)) → im F.G (rts as1) (ban F ((k, p :: A) :: os) as1) u v (upd H1 p (.lst vs)) := fun u v h => im_sub (fun a _ b => cm a b) _ _ h
      refine ⟨fun q m => up _ _ (this.gh q m), this.rel, fun a b => this.ok a (cm a b), ?_, this.ix, fun a m => this.new a ?_, fun a z => this.nb a (z.imp (fun m => ?_) id), StOk.mono up (fun _ _ h => h) (fun _ _ => rfl) this.sto, this.len, fun i s e => ?_⟩
      · have nd := this.nd
        have pp : ((p :: A) ++ flo os ++ fl as1).Perm ((A ++ [p]) ++ flo os ++ fl as1) := ((List.perm_append_comm (l₁ := [p]) (l₂ := A)).append_right (flo os)).append_right (fl as1)
        exact pp.nodup_iff.mpr nd
      · rw [flo_cons, List.mem_append] at m ⊢
        exact m.imp (pm a).mpr id
      · rw [flo_cons, List.mem_append] at m ⊢
        exact m.imp (pm a).mpr id
      · obtain ⟨v, q1, q2⟩ := this.at_ i s e
        refine ⟨v, q1, ?_⟩
        match s, q2 with
        | .im u, q2 => exact up _ _ q2
        | .raw _, q2 => exact q2
        | .own sh u, ⟨C, m, q2⟩ =>
          rcases List.mem_cons.mp m with z | m
          · have il := getElem?_lt e
            have m1 := S2.at_ i _ e
            obtain ⟨v', _, C', m', q'⟩ := m1
            rcases List.mem_cons.mp m' with z' | m'
            · have : i = k2 := (Prod.mk.inj z').1
              omega
            · rcases List.mem_cons.mp m' with z' | m'
              · have : i = k1 := (Prod.mk.inj z').1
                omega
              · exact absurd (List.mem_map_of_mem (f := (·.1)) m') (by rw [show (i, C').1 = k from (Prod.mk.inj z).1]; exact hk)
          · exact ⟨C, List.mem_cons_of_mem _ m, own_mono up (fun _ _ h => h) _ _ _ _ (fun _ _ => rfl) q2⟩
    · refine ownFs_mono (fun u v z => ?_) _ _ _ (fun a m => upd_ne (npA a m)) pv
      have z1 : im F.G (rts as1) (ban F ((k2, [p]) :: (k1, A) :: os) as1) u v H1 := im_sub (sub_cons fun a m => by rw [List.mem_singleton] at m; rw [m]; exact hp) _ _ z
      exact im_sub (fun a _ b => bb a b) _ _ (im_st (RB.of_ex (Ex.new hp)) _ _ z1)
    · rcases List.mem_cons.mp m with z | z
      · rw [z]; exact g1.fresh hp
      · exact n a z
  · rw [if_neg hl] at e; cases e
def allocM (u : U) : M U := fun st => some (.ok (.loc st.length), st ++ [u])
theorem StOk.snoc {G : Cxt} {B : Bn} {rs : List Addr} {H : Hp} {p : Addr × List Addr} {u : U} (h : ownC G rs B u (.ref p.1) H p.2) : ∀ {as : SA} {st : Sto}, StOk G B rs as st H → StOk G B rs (as ++ [p]) (st ++ [u]) H
  | [], [], _ => ⟨h, trivial⟩
  | _ :: _, _ :: _, ⟨h1, h2⟩ => ⟨h1, StOk.snoc h h2⟩
theorem ownC_of {G : Cxt} {rs : List Addr} {B : Bn} {H : Hp} {u : U} {v : V} {A : List Addr} (hu : ∀ c ns us, u ≠ .obj c ns us) (h : ownF G rs B u v H A) : ownC G rs B u v H A := by
  cases u <;> first | exact h | exact absurd rfl (hu _ _ _)
def lstO (u : U) : Option U := match u with
  | .lst _ => some u
  | _ => none
theorem blk_retC {S L : Type} {δn : S → Dl} {δl : L → Dl} (h : EvNF F te δ w) (hR : F.R = noR := by rfl) : Blk F (tRet te) δ (rtO (.bind w fun u => .bind (.o (lstO u)) allocM) : M (Out S L)) δn δl := fun D os as st γ σ H o st' Q q P => by
  obtain ⟨l, st1, ql, q⟩ := M.bind_inv q
  obtain ⟨u, st2, qu, ql2⟩ := M.bind_inv ql
  obtain ⟨u', st3, qx, ql3⟩ := M.bind_inv ql2
  obtain ⟨eu, rfl⟩ := M.o_inv qx
  clear ql ql2
  cases ql3; cases q
  refine h os as st γ σ H u _ Q qu _ fun v H1 as1 A g1 S1 p n => ?_
  cases u with
  | lst us => ?_
  | _ => cases eu
  cases eu
  obtain ⟨a, vs, A', e1, e2, e3, q⟩ := id p
  obtain ⟨k1, hk1, hl1⟩ := nodup_fresh (os.map (·.1)) δ.length
  have S2 := S1 k1 hk1
  have fle : fl (as1 ++ [(a, A)]) = fl as1 ++ A := by simp [fl]
  have rle : rts (as1 ++ [(a, A)]) = rts as1 ++ [a] := by simp [rts]
  have bb : ∀ b, ban F [] (as1 ++ [(a, A)]) b → ban F ((k1, A) :: os) as1 b := fun b z => by
    rw [ban_cons]
    rcases z with z | z | z
    · exact .inr (.inl z)
    · cases z
    · rw [fle, List.mem_append] at z
      exact z.elim (fun z => .inr (.inr (.inr z))) .inl
  have rsx : ∀ (i : Nat) (b : Addr), (rts as1)[i]? = some b → (rts (as1 ++ [(a, A)]))[i]? = some b := fun i b e => by
    rw [rle, List.getElem?_append_left (getElem?_lt e)]; exact e
  have up : ∀ u v, im F.G (rts as1) (ban F ((k1, A) :: os) as1) u v H1 → im F.G (rts (as1 ++ [(a, A)])) (ban F [] (as1 ++ [(a, A)])) u v H1 := fun u v h => im_sub (fun b _ z => bb b z) _ _ (im_rs rsx _ _ h)
  have nd : (A ++ (flo os ++ fl as1)).Nodup := by rw [← List.append_assoc]; exact S2.nd
  refine P (as1 ++ [(a, A)]) v H1 ⟨⟨S2.rel.rb, fun i b e => rsx i b (S2.rel.pre i b e), fun b m => ?_⟩, fun b z => S2.ok b (bb b z), ?_, fun b m => ?_, ?_, ?_, by rw [hR]; trivial⟩
  · rw [fle, List.mem_append] at m
    rcases m with m | m
    · exact S2.rel.new b m
    · exact .inr (S2.new b (List.mem_append_left _ m))
  · rw [fle]
    have nd' := List.nodup_append.mp nd
    exact List.nodup_append.mpr ⟨(List.nodup_append.mp nd'.2.1).2.1, nd'.1, fun b m c m' e => by subst e; exact nd'.2.2 b m' b (List.mem_append_right _ m) rfl⟩
  · rw [fle, List.mem_append] at m
    exact m.elim (fun m => S2.nb b (.inr m)) fun m => S2.nb b (.inl (List.mem_append_left _ m))
  · refine StOk.snoc (ownC_of (fun c ns us z => by cases z) ?_) (StOk.mono up (fun _ _ h => h) (fun _ _ => rfl) S2.sto)
    rw [← e1]
    exact ownF_mono up _ _ _ (fun _ _ => rfl) p
  · refine ⟨a, ?_, e1⟩
    rw [rle]
    have le : (rts as1).length = st3.length := (by unfold rts; rw [List.length_map]; exact S2.sto.len)
    rw [← le, List.getElem?_append_right (Nat.le_refl _), Nat.sub_self]
    rfl
end
def ownR (G : Cxt) (rs : List Addr) (B : Bn) : Bool → U → V → Hp → List Addr → Prop
  | true => ownC G rs B
  | false => ownF G rs B
structure HoleC (F : Fr) (os : Os) (as : SA) (H : Hp) (r : Bool) (i : Nat) (h : Hl) (v : V) : Prop where
  ex : ∃ a A A1 A' A2, as[i]? = some (a, A) ∧ A = A1 ++ (A' ++ A2) ∧ ownR F.G (rts as) (ban F os as) r h.1 v H A' ∧
    ∀ rs2 B2 H2 u2 A'2, (∀ u v, im F.G (rts as) (ban F os as) u v H → im F.G rs2 B2 u v H2) → (∀ a, a ∈ A1 ∨ a ∈ A2 → H2 a = H a) →
      ownR F.G rs2 B2 r u2 v H2 A'2 → ownC F.G rs2 B2 (h.2 u2) (.ref a) H2 (A1 ++ (A'2 ++ A2))
abbrev Cl := Nat × Hl
def EvC (F : Fr) (r : Bool) (te : TE) (δ : Dl) (w : M Cl) : Prop := ∀ os as st γ σ H c st', SDo F os as st γ H σ δ → w st = some (.ok c, st') → ∀ QQ : VK, (∀ v H' as', Go as as' H H' → SDo F os as' st' γ H' σ δ → HoleC F os as' H' r c.1 c.2 v → QQ v H') → te σ H QQ
def EvQ (F : Fr) (te : TE) (δ : Dl) (w : M U) : Prop := ∀ os as st γ σ H a st', SDo F os as st γ H σ δ → w st = some (.ok a, st') → st' = st ∧ ∀ QQ : VK, (∀ v, im F.G (rts as) (ban F os as) a v H → QQ v H) → te σ H QQ
def locM (u : U) : M Cl := fun st => match u with
  | .loc i => match st[i]? with
    | some x => some (.ok (i, (x, id)), st)
    | none => none
  | _ => none
section
variable {F : Fr} {os : Os} {as : SA} {st : Sto} {γ : List (U × V)} {H : Hp} {σ : L2.St} {δ : Dl}
theorem StOk.get {G : Cxt} {B : Bn} {rs : List Addr} : ∀ {as : SA} {st : Sto} {i : Nat} {p : Addr × List Addr} {u : U}, StOk G B rs as st H → as[i]? = some p → st[i]? = some u → ownC G rs B u (.ref p.1) H p.2
  | p :: as, s :: st, 0, _, _, ⟨h1, _⟩, e1, e2 => by simp at e1 e2; subst e1 e2; exact h1
  | p :: as, s :: st, i + 1, _, _, ⟨_, h2⟩, e1, e2 => StOk.get (i := i) h2 (by simpa using e1) (by simpa using e2)
  | [], [], _, _, _, _, e, _ => by simp at e
theorem ec_loc {te : TE} {w : M U} (h : EvW F te δ w) : EvC F true te δ (.bind w locM) := fun os as st γ σ H c st' S q QQ k => by
  obtain ⟨u, st1, qu, q⟩ := M.bind_inv q
  refine h os as st γ σ H u _ S qu _ fun v H1 as1 g1 S1 p => ?_
  cases u with
  | loc i => ?_
  | _ => cases q
  obtain ⟨a, ea, ev⟩ := p
  cases es : st1[i]? with
  | none => simp only [locM, es] at q; cases q
  | some x =>
    simp only [locM, es] at q
    cases q
    obtain ⟨⟨a', A⟩, e1, e2⟩ : ∃ p, as1[i]? = some p ∧ p.1 = a := by
      unfold rts at ea
      rw [List.getElem?_map] at ea
      obtain ⟨p, h1, h2⟩ := Option.map_eq_some_iff.mp ea
      exact ⟨p, h1, h2⟩
    simp only at e2
    subst e2
    have := S1.sto.get e1 es
    rw [← ev] at this
    exact k v H1 as1 g1 S1 ⟨a', A, [], A, [], e1, by simp, this, fun rs2 B2 H2 u2 A'2 _ _ o2 => by rw [← ev]; have o2 : ownC F.G rs2 B2 u2 v H2 A'2 := o2; simpa using o2⟩
theorem eq_int {i : Int} : EvQ F (tC (.int i)) δ (.ret (.int i)) := fun os as st γ σ H a st' S q => by
  cases q; exact ⟨rfl, fun QQ k => k _ rfl⟩
theorem eq_var {i : Nat} {u : U} (h : δ[i]? = some (some (.im u))) : EvQ F (tVar i) δ (.ret u) := fun os as st γ σ H a st' S q => by
  cases q
  obtain ⟨v, e, p⟩ := S.get h
  exact ⟨rfl, fun QQ k => ⟨v, e, k v p⟩⟩
def ixC (c : Cl) (n : U) : Option Cl := match c.2.1 with
  | .lst _ => (ixH c.2 n).map fun h => (c.1, h)
  | _ => none
theorem ec_ix {r : Bool} {te ti : TE} {w : M Cl} {wi : M U} (h : EvC F r te δ w) (hi : EvQ F ti δ wi) : EvC F false (tOp (rIx F.G.K) te ti) δ (.bind w fun c => .bind wi fun n => .o (ixC c n)) := fun os as st γ σ H c st' S q QQ k => by
  obtain ⟨c1, st1, q1, q⟩ := M.bind_inv q
  obtain ⟨n, st2, q2, q⟩ := M.bind_inv q
  obtain ⟨e, rfl⟩ := M.o_inv q
  refine h os as st γ σ H c1 st1 S q1 _ fun x H1 as1 g1 S1 p1 => ?_
  obtain ⟨rfl, hq⟩ := hi os as1 st1 γ σ H1 n _ S1 q2
  refine hq _ fun y py => ?_
  obtain ⟨a, A, A1, A', A2, e0, eA, o, pl⟩ := p1.ex
  obtain ⟨i, u1, f1⟩ := c1
  cases u1 with
  | lst us =>
    cases n with
    | int n => ?_
    | _ => cases e
    have o : ownF F.G (rts as1) (ban F os as1) (.lst us) x H1 A' := by cases r <;> exact o
    obtain ⟨b, vs, B, e1, e2, e3, z⟩ := o
    simp only [ixC, ixH] at e
    cases ej : ixN us.length n with
    | none => rw [ej] at e; cases e
    | some j =>
      rw [ej] at e
      simp only at e
      cases eu : us[j]? with
      | none => rw [eu] at e; cases e
      | some u =>
        rw [eu] at e
        simp only [Option.map_some] at e
        cases e
        obtain ⟨v, B1, B', B2, f1', f2, f3, f4⟩ := ownFs_split z eu
        refine .inl ⟨b, vs, n, v, e1, py, .inl (.inl e3), ixN_eq (by rw [ownFs_len z]; exact ej) f1', ?_⟩
        refine k v H1 as1 g1 S1 ⟨a, A, A1 ++ b :: B1, B', B2 ++ A2, e0, by rw [eA, e2, f2]; simp, f3, fun rs2 B2' H3 u2 A'2 t1 t3 o2 => ?_⟩
        have := pl rs2 B2' H3 (.lst (us.set j u2)) (b :: (B1 ++ (A'2 ++ B2))) t1 (fun b z => t3 b (z.imp (fun z => List.mem_append_left _ z) fun z => List.mem_append_right _ z)) (by
          have : ownF F.G rs2 B2' (.lst (us.set j u2)) x H3 (b :: (B1 ++ (A'2 ++ B2))) := ⟨b, vs, B1 ++ (A'2 ++ B2), e1, rfl, by rw [t3 b (.inl (List.mem_append_right _ List.mem_cons_self))]; exact e3, f4 rs2 B2' H3 u2 A'2 t1 (fun b z => t3 b (z.imp (fun z => List.mem_append_right _ (List.mem_cons_of_mem _ z)) fun z => List.mem_append_left _ z)) o2⟩
          cases r <;> exact this)
        simpa using this
  | _ => cases e
def valC (c : Cl) : Option U := leafO c.2.1
theorem ev_cell {r : Bool} {te : TE} {w : M Cl} (h : EvC F false te δ w) : EvW F te δ (.bind w fun c => .o (valC c)) := fun os as st γ σ H c st' S q QQ k => by
  obtain ⟨c1, st1, q1, q⟩ := M.bind_inv q
  obtain ⟨e, rfl⟩ := M.o_inv q
  refine h os as st γ σ H c1 _ S q1 _ fun x H1 as1 g1 S1 p1 => ?_
  obtain ⟨a, A, A1, A', A2, e0, eA, o, pl⟩ := p1.ex
  unfold valC leafO at e
  by_cases hl : leafU c1.2.1 = true
  · rw [if_pos hl] at e
    cases e
    exact k x H1 as1 g1 S1 ((leaf_ownF hl).mp o).2
  · rw [if_neg hl] at e; cases e
def putC (i : Nat) (u : U) : M Unit := fun st => if i < st.length then some (.ok (), st.set i u) else none
theorem StOk.upd {G : Cxt} {B : Bn} {rs : List Addr} {H H' : Hp} {a : Addr} (hk : ∀ u v, im G rs B u v H → im G rs B u v H') (ht : ∀ a xs, H a = some (.tup xs) → H' a = some (.tup xs)) : ∀ {as : SA} {st : Sto} {i : Nat} {p : Addr × List Addr} {u : U}, (fl as).Nodup → StOk G B rs as st H → as[i]? = some p → a ∈ p.2 → (∀ b, b ≠ a → H' b = H b) → ownC G rs B u (.ref p.1) H' p.2 → StOk G B rs as (st.set i u) H'
  | q :: as, s :: st, 0, p, u, nd, ⟨h1, h2⟩, e, ma, kp, o => by
    simp at e; subst e
    have nd' := List.nodup_append.mp (show (q.2 ++ fl as).Nodup from nd)
    exact ⟨o, StOk.mono hk ht (fun b m => kp b fun z => nd'.2.2 a ma b m z.symm) h2⟩
  | q :: as, s :: st, i + 1, p, u, nd, ⟨h1, h2⟩, e, ma, kp, o => by
    have nd' := List.nodup_append.mp (show (q.2 ++ fl as).Nodup from nd)
    have e' : as[i]? = some p := by simpa using e
    exact ⟨ownC_mono hk _ _ _ (fun b m => kp b fun z => nd'.2.2 b m a (mem_fl (List.mem_of_getElem? e') ma) z) h1, StOk.upd hk ht nd'.2.1 h2 e' ma kp o⟩
  | [], [], _, _, _, _, _, e, _, _, _ => by simp at e
theorem SDo.cell (S : SDo F os as st γ H σ δ) {i : Nat} {a b : Addr} {A : List Addr} {vs vs' : List V} {u : U} (e0 : as[i]? = some (a, A)) (mb : b ∈ A) (e : H b = some (.lst vs)) (o : ownC F.G (rts as) (ban F os as) u (.ref a) (upd H b (.lst vs')) A) :
    SDo F os as (st.set i u) γ (upd H b (.lst vs')) σ δ ∧ Go as as H (upd H b (.lst vs')) ∧ ∀ u v, im F.G (rts as) (ban F os as) u v H → im F.G (rts as) (ban F os as) u v (upd H b (.lst vs')) := by
  have mf : b ∈ fl as := mem_fl (List.mem_of_getElem? e0) mb
  have rb : RB (· ∈ fl as) H (upd H b (.lst vs')) := by
    refine ⟨fun c o n h => by rw [upd_ne (fun (z : c = b) => n (by rw [z]; exact mf))]; exact h, fun c xs h => by rw [upd_ne (ne_of h e (by intro z; cases z))]; exact h, fun c o x h => by rw [upd_ne (ne_of h e (by intro z; cases z))]; exact h, fun c _ n => ?_⟩
    by_cases z : c = b
    · rw [z, upd_same]; exact fun q => nomatch q
    · rw [upd_ne z]; exact n
  have g : Go as as H (upd H b (.lst vs')) := ⟨rb, fun _ _ h => h, fun _ h => .inl h⟩
  have hk : ∀ u v, im F.G (rts as) (ban F os as) u v H → im F.G (rts as) (ban F os as) u v (upd H b (.lst vs')) := fun u v h => im_go g h
  have nd := (List.nodup_append.mp S.nd).2.1
  refine ⟨S.go g nd (StOk.upd hk (fun c xs h => rb.tup c xs h) nd S.sto e0 mb (fun c n => upd_ne n) o) fun c m => g.alive (S.ok c (.inr (.inr m))), g, hk⟩
def setItC (c : Cl) (n x : U) : Option Cl := match c.2.1, n with
  | .lst us, .int n => if leafU x = true then match ixN us.length n with
    | some j => match us[j]? with
      | some o => if leafU o = true then some (c.1, (c.2.2 (.lst (us.set j x)), id)) else none
      | none => none
    | none => none else none
  | _, _ => none
theorem StOk.lt {G : Cxt} {B : Bn} {rs : List Addr} {i : Nat} {p : Addr × List Addr} (h : StOk G B rs as st H) (e : as[i]? = some p) : i < st.length := by
  have := getElem?_lt e
  rw [h.len] at this
  exact this
theorem ownFs_set {G : Cxt} {rs rs2 : List Addr} {B B2 : Bn} {H H2 : Hp} {x w : U} {xv : V} (hx : leafU x = true) (hw : leafU w = true) (px : im G rs2 B2 x xv H2) (t : ∀ u v, im G rs B u v H → im G rs2 B2 u v H2) : ∀ {us : List U} {vs : List V} {A : List Addr} {j : Nat}, us[j]? = some w → (∀ c ∈ A, H2 c = H c) → ownFs G rs B us vs H A → ownFs G rs2 B2 (us.set j x) (vs.set j xv) H2 A
  | [], _, _, _, e, _, _ => by simp at e
  | u :: us, _, A, 0, e, k, ⟨v, r, A1, A2, e1, e2, h1, h2⟩ => by
    simp at e; subst e e1
    obtain ⟨z, _⟩ := (leaf_ownF hw).mp h1
    subst z
    exact ⟨xv, r, [], A2, rfl, e2, (leaf_ownF hx).mpr ⟨rfl, px⟩, ownFs_mono t us r A2 (fun c m => k c (by rw [e2]; exact m)) h2⟩
  | u :: us, _, A, j + 1, e, k, ⟨v, r, A1, A2, e1, e2, h1, h2⟩ => by
    subst e1
    exact ⟨v, r.set j xv, A1, A2, rfl, e2, ownF_mono t u v A1 (fun c m => k c (by rw [e2]; exact List.mem_append_left _ m)) h1, ownFs_set hx hw px t (j := j) (by simpa using e) (fun c m => k c (by rw [e2]; exact List.mem_append_right _ m)) h2⟩
theorem imAll_map {G : Cxt} {rs rs2 : List Addr} {B B2 : Bn} {H H2 : Hp} (t : ∀ u v, im G rs B u v H → im G rs2 B2 u v H2) : ∀ {us : List U} {vs : List V}, imAll G rs B us vs H → imAll G rs2 B2 us vs H2
  | [], _, h => h
  | u :: us, _, ⟨v, w, e, h1, h2⟩ => ⟨v, w, e, t _ _ h1, imAll_map t h2⟩
theorem sa_nodup {a : Addr} {A : List Addr} : ∀ (l : SA) (i : Nat), (fl l).Nodup → l[i]? = some (a, A) → A.Nodup := by
  intro l
  induction l with
  | nil => intro i _ e; simp at e
  | cons p l ih =>
    intro i nd e
    have nd' := List.nodup_append.mp (show (p.2 ++ fl l).Nodup from nd)
    cases i with
    | zero => simp at e; rw [show A = p.2 by rw [e]]; exact nd'.1
    | succ i => exact ih i nd'.2.1 (by simpa using e)
theorem HoleC.setL {r : Bool} {i : Nat} {us us' : List U} {f : U → U} {cv : V} (p : HoleC F os as H r i (.lst us, f) cv) (S : SDo F os as st γ H σ δ) :
    ∃ b vs B, cv = .ref b ∧ H b = some (.lst vs) ∧ ownFs F.G (rts as) (ban F os as) us vs H B ∧ b ∉ B ∧ i < st.length ∧ ∀ vs', (∀ H2, (∀ u v, im F.G (rts as) (ban F os as) u v H → im F.G (rts as) (ban F os as) u v H2) → (∀ c ∈ B, H2 c = H c) → ownFs F.G (rts as) (ban F os as) us' vs' H2 B) → SDo F os as (st.set i (f (.lst us'))) γ (upd H b (.lst vs')) σ δ := by
  obtain ⟨a, A, A1, A', A2, e0, eA, ow, pl⟩ := p.ex
  have ow : ownF F.G (rts as) (ban F os as) (.lst us) cv H A' := by cases r <;> exact ow
  obtain ⟨b, vs, B, e1, e2, e3, z⟩ := ow
  have mb : b ∈ A := by rw [eA, e2]; exact List.mem_append_right _ List.mem_cons_self
  have nd := sa_nodup as i (List.nodup_append.mp S.nd).2.1 e0
  rw [eA, e2] at nd
  have nd1 := List.nodup_append.mp nd
  have nd2 := List.nodup_cons.mp nd1.2.1
  have nB : b ∉ B := fun m => nd2.1 (List.mem_append_left _ m)
  refine ⟨b, vs, B, e1, e3, z, nB, S.sto.lt e0, fun vs' hv => ?_⟩
  have mf : b ∈ fl as := mem_fl (List.mem_of_getElem? e0) mb
  have rb : RB (· ∈ fl as) H (L2.upd H b (.lst vs')) := by
    refine ⟨fun c o n h => by rw [upd_ne (fun (z : c = b) => n (by rw [z]; exact mf))]; exact h, fun c xs h => by rw [upd_ne (ne_of h e3 (by intro z; cases z))]; exact h, fun c o x h => by rw [upd_ne (ne_of h e3 (by intro z; cases z))]; exact h, fun c _ n => ?_⟩
    by_cases z : c = b
    · rw [z, upd_same]; exact fun q => nomatch q
    · rw [upd_ne z]; exact n
  have g : Go as as H (L2.upd H b (.lst vs')) := ⟨rb, fun _ _ h => h, fun _ h => .inl h⟩
  refine (S.cell e0 mb e3 (vs' := vs') ?_).1
  have := pl (rts as) (ban F os as) (L2.upd H b (.lst vs')) (.lst us') A' (fun u v h => im_go g h) (fun c z => upd_ne fun e => ?_) (by
    have : ownF F.G (rts as) (ban F os as) (.lst us') cv (L2.upd H b (.lst vs')) A' := ⟨b, vs', B, e1, e2, upd_same, hv _ (fun u v h => im_go g h) fun c m => upd_ne fun e => nB (by rw [← e]; exact m)⟩
    cases r <;> exact this)
  · rw [eA]; exact this
  · subst e
    rcases z with z | z
    · exact nd1.2.2 c z c List.mem_cons_self rfl
    · exact nd2.1 (List.mem_append_right _ z)
theorem blk_setC {S L : Type} {δn : S → Dl} {δl : L → Dl} {r : Bool} {te to ti : TE} {t2 : TS} {we wi : M U} {wc : M Cl} {k : M (Out S L)} (he : EvW F te δ we) (hc : EvC F r to δ wc) (hi : EvQ F ti δ wi) (h2 : Blk F t2 δ k δn δl) :
    Blk F (tSeq (tAsg te (gSub to ti rSetL)) t2) δ (.bind we fun x => .bind wc fun c => .bind wi fun n => .bind (.o (setItC c n x)) fun d => .bind (putC d.1 d.2.1) fun _ => k) δn δl := fun D os as st γ σ H o st' Q q P => by
  obtain ⟨x, st1, q1, q⟩ := M.bind_inv q
  obtain ⟨c, st2, q2, q⟩ := M.bind_inv q
  obtain ⟨n, st3, q3, q⟩ := M.bind_inv q
  obtain ⟨d, st4, q4, q⟩ := M.bind_inv q
  obtain ⟨_, st5, q5, q⟩ := M.bind_inv q
  obtain ⟨ed, rfl⟩ := M.o_inv q4
  refine he os as st γ σ H x st1 Q q1 _ fun xv H1 as1 g1 S1 px => hc os as1 st1 γ σ H1 c st2 S1 q2 _ fun cv H2 as2 g2 S2 p2 => ?_
  obtain ⟨rfl, hq⟩ := hi os as2 st2 γ σ H2 n _ S2 q3
  refine hq _ fun y py => ?_
  have px := im_go g2 px
  obtain ⟨i, u1, f1⟩ := c
  cases u1 with
  | lst us =>
    cases n with
    | int n => ?_
    | _ => cases ed
    simp only [setItC] at ed
    by_cases hl : leafU x = true
    · rw [if_pos hl] at ed
      cases ej : ixN us.length n with
      | none => rw [ej] at ed; cases ed
      | some j =>
        rw [ej] at ed
        simp only at ed
        cases eo : us[j]? with
        | none => rw [eo] at ed; cases ed
        | some w =>
          rw [eo] at ed
          simp only at ed
          by_cases hw : leafU w = true
          · rw [if_pos hw] at ed
            cases ed
            obtain ⟨b, vs, B, e1, e3, z, nB, lt, fin⟩ := p2.setL (us' := us.set j x) S2
            unfold putC at q5
            simp only [lt, if_true] at q5
            cases q5
            refine ⟨b, vs, n, j, e1, py, e3, by rw [ownFs_len z]; exact ej, h2 D os as2 _ γ σ _ o st' (fin _ fun H3 t kp => ownFs_set hl hw (t _ _ px) t eo kp z) q P⟩
          · rw [if_neg hw] at ed; cases ed
    · rw [if_neg hl] at ed; cases ed
  | _ => cases ed
def mutC (f : List U → List U → Option (U × List U)) (c : Cl) (xs : List U) : Option (U × Cl) := match c.2.1 with
  | .lst us => if us.all leafU = true ∧ xs.all leafU = true then match f us xs with
    | some p => if p.2.all leafU = true then some (p.1, (c.1, (c.2.2 (.lst p.2), id))) else none
    | none => none else none
  | _ => none
theorem blk_mutC {S L : Type} {δn : S → Dl} {δl : L → Dl} {r : Bool} {to ti : TE} {t2 : TS} {wi : M U} {wc : M Cl} {k : M (Out S L)} {rr : V → List V → Hp → VK → Prop} {f : List U → List U → Option (U × List U)} (hm : MutL F rr f) (hc : EvC F r to δ wc) (hi : EvQ F ti δ wi) (h2 : Blk F t2 δ k δn δl) :
    Blk F (tSeq (tDrop (tBM F.G.K "list" rr to (tCons ti tNil))) t2) δ (.bind wc fun c => .bind wi fun n => .bind (.o (mutC f c [n])) fun d => .bind (putC d.2.1 d.2.2.1) fun _ => k) δn δl := fun D os as st γ σ H o st' Q q P => by
  obtain ⟨c, st2, q2, q⟩ := M.bind_inv q
  obtain ⟨n, st3, q3, q⟩ := M.bind_inv q
  obtain ⟨d, st4, q4, q⟩ := M.bind_inv q
  obtain ⟨_, st5, q5, q⟩ := M.bind_inv q
  obtain ⟨ed, rfl⟩ := M.o_inv q4
  refine hc os as st γ σ H c st2 Q q2 _ fun cv H2 as2 g2 S2 p2 => ?_
  obtain ⟨rfl, hq⟩ := hi os as2 st2 γ σ H2 n _ S2 q3
  obtain ⟨i, u1, f1⟩ := c
  cases u1 with
  | lst us =>
    simp only [mutC] at ed
    by_cases hl : us.all leafU = true ∧ [n].all leafU = true
    · rw [if_pos hl] at ed
      cases ef : f us [n] with
      | none => rw [ef] at ed; cases ed
      | some p =>
        rw [ef] at ed
        simp only at ed
        by_cases hp : p.2.all leafU = true
        · rw [if_pos hp] at ed
          cases ed
          obtain ⟨b, vs, B, e1, e3, z, nB, lt, fin⟩ := p2.setL (us' := p.2) S2
          unfold putC at q5
          simp only [lt, if_true] at q5
          cases q5
          obtain ⟨zB, hv⟩ := (flat_ownFs hl.1).mp z
          subst e1 zB
          refine ⟨.inl ⟨rfl, vs, EL.sqL_of e3⟩, hq _ fun y py => ?_⟩
          obtain ⟨v, vs', h1, h2', h3⟩ := hm os as2 H2 b vs us [n] [y] p e3 hv ⟨y, [], rfl, py, rfl⟩ ef
          exact h3 _ (h2 D os as2 _ γ σ _ o st' (fin vs' fun H3 t kp => (flat_ownFs hp).mpr ⟨rfl, imAll_map t h1⟩) q P)
        · rw [if_neg hp] at ed; cases ed
    · rw [if_neg hl] at ed; cases ed
  | _ => cases ed
mutual
theorem ownF_im0 : ∀ (u : U) (v : V) (A : List Addr), ownF F.G (rts as) (ban F os as) u v H A → im F.G (rts as) noB u v H
  | .lst us, v, A, ⟨a, vs, A', e1, e2, h, q⟩ => ⟨a, vs, e1, fun z => z, h, ownFs_im0 us vs A' q⟩
  | .dct ks us, v, A, ⟨a, vs, A', e1, e2, h, l, q⟩ => ⟨a, vs, e1, fun z => z, .inl h, l, ownFs_im0 us vs A' q⟩
  | .dcT ks us, v, A, ⟨a, vs, A', e1, e2, h, l, q⟩ => ⟨a, vs, e1, fun z => z, .inl h, l, ownFs_im0 us vs A' q⟩
  | .non, v, A, h => sub0 h.2
  | .bl _, v, A, h => sub0 h.2
  | .int _, v, A, h => sub0 h.2
  | .str _, v, A, h => sub0 h.2
  | .tup _, v, A, h => sub0 h.2
  | .obj _ _ _, v, A, h => sub0 h.2
  | .dcN _ _, v, A, h => sub0 h.2
  | .top _, v, A, h => sub0 h.2
  | .frl _, v, A, h => sub0 h.2
  | .loc _, v, A, h => sub0 h.2
  | .exc _, v, A, h => sub0 h.2
  | .exo _ _ _, v, A, h => sub0 h.2
theorem ownFs_im0 : ∀ (us : List U) (vs : List V) (A : List Addr), ownFs F.G (rts as) (ban F os as) us vs H A → imAll F.G (rts as) noB us vs H
  | [], _, _, h => h.1
  | u :: us, _, A, ⟨v, r, A1, A2, e1, e2, h1, h2⟩ => ⟨v, r, e1, ownF_im0 u v A1 h1, ownFs_im0 us r A2 h2⟩
end
theorem ownR_im0 {r : Bool} {u : U} {v : V} {A : List Addr} (h : ownR F.G (rts as) (ban F os as) r u v H A) : im F.G (rts as) noB u v H := by
  cases r with
  | false => exact ownF_im0 u v A h
  | true =>
    cases u with
    | obj c ns us => obtain ⟨a, dx, vs, A', e1, e2, h, l, q⟩ := h; exact ⟨a, dx, vs, e1, fun z => z, h, l, ownFs_im0 us vs A' q⟩
    | _ => exact ownF_im0 _ v A h
theorem neU_l (a : U) (b : List U) : neU a (.lst b) = neD a (.lst b) := by cases a <;> rfl
theorem ev_neC {r : Bool} {te : TE} {w : M Cl} (h : EvC F r te δ w) : EvW F (tOp (rNeU F.G.K) te (tLst tNil)) δ (.bind w fun c => .o (neU c.2.1 (.lst []))) := fun os as st γ σ H c st' S q QQ k => by
  obtain ⟨c1, st1, q1, q⟩ := M.bind_inv q
  obtain ⟨e, rfl⟩ := M.o_inv q
  refine h os as st γ σ H c1 _ S q1 _ fun x H1 as1 g1 S1 p1 => ⟨Nat.zero_le _, fun p hp => ?_⟩
  obtain ⟨a, A, A1, A', A2, e0, eA, o, pl⟩ := p1.ex
  have px := im_st (RB.of_ex (B := noB) (Ex.new (o := .lst []) hp)) _ _ (ownR_im0 o)
  rw [neU_l] at e
  unfold neD at e
  cases e1 : pd c1.2.1 with
  | none => rw [e1] at e; cases e
  | some d =>
    rw [e1] at e
    have e2 : pd (.lst []) = some (.list []) := rfl
    rw [e2] at e
    simp only at e
    split at e
    · rename_i hs
      cases e
      exact .inl ⟨d, .list [], im_dp _ _ _ px e1, .lst (EL.sqL_of upd_same) .nil, hs.1, hs.2, k _ _ as1 (g1.trans (Go.of_ex (Ex.new hp))) (S1.ex (Ex.new hp)) rfl⟩
    · cases e
end
end UX
namespace UX
open PySem PySem.Spec PyProof.Rows L2
open EL (Ex RB BOk Bn TK FnG okG)
section
variable {P : Program} {w : World} {K : PySem.W.Frag} {mg : Str → Option Value} {bs : Heap} {CX : CXT} {x qu : Str} {pa : Arguments} {bo : List Stmt} {sc : Scope} {dv : List V} {kw : List (Str × V)} {f : Addr} {fd : FuncData}
theorem fn_okF {at_ : Str → Addr} {N ps : List Str} {k : Nat} {fM : List U → M U} (Fd : FunD K x qu pa bo sc dv kw f fd) (Sc : FnScope N ps sc)
    (hlen : ∀ us st r, fM us st = some r → us.length = ps.length)
    (hb : ∀ (cv : Value) (A : Around) (o : List Env) (s : Shared) (H : Hp) (E : XK), Room k (A.deeper (envOfC qu sc s.heap.objs.size f cv)) →
      ∃ t, PSs (cxOf CX P w K mg bs N qu sc f cv A o s H E) bo t ∧ ∀ B H0 as0 us st r, fM us st = some r → ∃ wo : M (Out Unit Unit), fM us = fnM wo ∧ Blk ⟨⟨K, at_⟩, B, H0, as0, noR⟩ t (stD N us) wo (fun _ => dnil N) (fun _ => dnil N)) :
    FnOk P w K mg bs CX (k + 1) f fd ps (spM ⟨K, at_⟩ fM) := by
  refine Fd.ok Sc (fun vs H Q E h => ?_) fun cv A o s H vs Q E rm hsp => ?_
  · obtain ⟨B, as, st, us, u, st', _, _, _, _, hi, hf, _⟩ := h
    rw [imAll_len hi]
    exact hlen us st _ hf
  · obtain ⟨B, as, st, us, u, st', ok, nd, nb, sto, hi, hf, kk⟩ := hsp
    obtain ⟨t, ht, hB⟩ := hb cv A o s H E rm
    refine ⟨t, ht, ?_⟩
    obtain ⟨wo, e, bl⟩ := hB B H as us st _ hf
    rw [e] at hf
    obtain ⟨o', st1, q1, q⟩ := M.bind_inv hf
    refine bl _ [] as st [] _ H o' st1 (SDo.start (F := ⟨⟨K, at_⟩, B, H, as, noR⟩) ok nd nb sto hi) q1 ?_
    cases o' with
    | rt u' => cases q; exact fun as' v H' r => kk as' v H' r
    | nx _ => cases q; exact fun os as' σ H' S => kk as' _ H' (S.rt rfl trivial)
    | bk _ => cases q
    | ct _ => cases q
end
def lookF (f : Str) : List Str → List U → Option U
  | n :: ns, u :: us => if n = f then some u else lookF f ns us
  | _, _ => none
def fldU (cs : List Str) (f : Str) : U → Option U
  | .obj c ns us => if c ∈ cs then lookF f ns us else none
  | _ => none
section
variable {F : Fr} {δ : Dl} {te ta : TE} {w : M U}
def isObj (c m : Str) : U → Option U
  | .obj c' ns us => if c' = c ∧ lookF m ns us = none ∧ ns.length = us.length then some (.obj c' ns us) else none
  | _ => none
def methM (c m : Str) (f : List U → M U) (wo : M U) (wa : M (List U)) : M U := .bind wo fun o => .bind (.o (isObj c m o)) fun _ => .bind wa fun us => f (o :: us)
end
mutual
def nlU : U → Bool
  | .tup us => nlA us
  | .lst us => nlA us
  | .dct _ us => nlA us
  | .dcT _ us => nlA us
  | .dcN ks us => nlA ks && nlA us
  | .obj _ _ us => nlA us
  | .frl us => nlA us
  | .loc _ => false
  | .exc _ => false
  | .exo _ _ _ => false
  | _ => true
def nlA : List U → Bool
  | [] => true
  | u :: us => nlU u && nlA us
end
section
variable {G : Cxt} {rs rs' : List Addr} {B : Bn} {H : Hp}
mutual
theorem im_nl : ∀ (u : U) (v : V), nlU u = true → im G rs B u v H → im G rs' B u v H
  | .non, _, _, h => h
  | .bl _, _, _, h => h
  | .int _, _, _, h => h
  | .str _, _, _, h => h
  | .tup us, _, p, ⟨a, vs, e, t, q⟩ => ⟨a, vs, e, t, imAll_nl us vs p q⟩
  | .lst us, _, p, ⟨a, vs, e, n, t, q⟩ => ⟨a, vs, e, n, t, imAll_nl us vs p q⟩
  | .dct ks us, _, p, ⟨a, vs, e, n, t, l, q⟩ => ⟨a, vs, e, n, t, l, imAll_nl us vs p q⟩
  | .dcT ks us, _, p, ⟨a, vs, e, n, t, l, q⟩ => ⟨a, vs, e, n, t, l, imAll_nl us vs p q⟩
  | .dcN ks us, _, p, ⟨a, vs, e, n, t, l, q1, q⟩ => ⟨a, vs, e, n, t, l, imAll_nl ks _ (Bool.and_eq_true_iff.mp p).1 q1, imAll_nl us _ (Bool.and_eq_true_iff.mp p).2 q⟩
  | .obj c ns us, _, p, ⟨a, dx, vs, e, n, t, l, q⟩ => ⟨a, dx, vs, e, n, t, l, imAll_nl us vs p q⟩
  | .top _, _, _, h => h
  | .frl us, _, p, ⟨a, vs, e, t, q⟩ => ⟨a, vs, e, t, imAll_nl us vs p q⟩
  | .loc _, _, p, _ => nomatch p
  | .exc _, _, p, _ => nomatch p
  | .exo _ _ _, _, p, _ => nomatch p
theorem imAll_nl : ∀ (us : List U) (vs : List V), nlA us = true → imAll G rs B us vs H → imAll G rs' B us vs H
  | [], _, _, h => h
  | u :: us, _, p, ⟨v, w, e, h1, h2⟩ => ⟨v, w, e, im_nl u v (Bool.and_eq_true_iff.mp p).1 h1, imAll_nl us w (Bool.and_eq_true_iff.mp p).2 h2⟩
end
mutual
/-- what is wholly owned, given away -/
theorem ownF_im : ∀ (u : U) (v : V) (A : List Addr), (∀ a ∈ A, ¬ B a) → ownF G rs B u v H A → im G rs B u v H
  | .lst us, v, A, n, ⟨a, vs, A', e1, e2, h, q⟩ => ⟨a, vs, e1, n a (by rw [e2]; exact List.mem_cons_self), h, ownFs_im us vs A' (fun b m => n b (by rw [e2]; exact List.mem_cons_of_mem _ m)) q⟩
  | .dct ks us, v, A, n, ⟨a, vs, A', e1, e2, h, l, q⟩ => ⟨a, vs, e1, n a (by rw [e2]; exact List.mem_cons_self), .inl h, l, ownFs_im us vs A' (fun b m => n b (by rw [e2]; exact List.mem_cons_of_mem _ m)) q⟩
  | .dcT ks us, v, A, n, ⟨a, vs, A', e1, e2, h, l, q⟩ => ⟨a, vs, e1, n a (by rw [e2]; exact List.mem_cons_self), .inl h, l, ownFs_im us vs A' (fun b m => n b (by rw [e2]; exact List.mem_cons_of_mem _ m)) q⟩
  | .non, v, A, _, h => h.2
  | .bl _, v, A, _, h => h.2
  | .int _, v, A, _, h => h.2
  | .str _, v, A, _, h => h.2
  | .tup _, v, A, _, h => h.2
  | .obj _ _ _, v, A, _, h => h.2
  | .dcN _ _, v, A, _, h => h.2
  | .top _, v, A, _, h => h.2
  | .frl _, v, A, _, h => h.2
  | .loc _, v, A, _, h => h.2
  | .exc _, v, A, _, h => h.2
  | .exo _ _ _, v, A, _, h => h.2
theorem ownFs_im : ∀ (us : List U) (vs : List V) (A : List Addr), (∀ a ∈ A, ¬ B a) → ownFs G rs B us vs H A → imAll G rs B us vs H
  | [], _, _, _, h => h.1
  | u :: us, _, A, n, ⟨v, r, A1, A2, e1, e2, h1, h2⟩ => ⟨v, r, e1, ownF_im u v A1 (fun b m => n b (by rw [e2]; exact List.mem_append_left _ m)) h1, ownFs_im us r A2 (fun b m => n b (by rw [e2]; exact List.mem_append_right _ m)) h2⟩
end
theorem ownC_im {u : U} {v : V} {A : List Addr} (n : ∀ a ∈ A, ¬ B a) (h : ownC G rs B u v H A) : im G rs B u v H := by
  cases u with
  | obj c ns us => obtain ⟨a, dx, vs, A', e1, e2, h, l, q⟩ := h; exact ⟨a, dx, vs, e1, n a (by rw [e2]; exact List.mem_cons_self), h, l, ownFs_im us vs A' (fun b m => n b (by rw [e2]; exact List.mem_cons_of_mem _ m)) q⟩
  | _ => exact ownF_im _ v A n h
end
section
variable {F : Fr} {δ : Dl} {ta : TA} {wa : M (List U)} {E : XK} {f : List U → M U} {c : Str}
end
def idxF (f : Str) : List Str → Option Nat
  | [] => none
  | n :: ns => if n = f then some 0 else (idxF f ns).map (· + 1)
theorem idx_zip {f : Str} : ∀ {ns : List Str} {vs : List V} {j : Nat} {v : V}, idxF f ns = some j → vs[j]? = some v → (ns.zip vs).lookup f = some v
  | [], _, _, _, e, _ => by cases e
  | n :: ns, [], _, _, _, e => by simp at e
  | n :: ns, w :: vs, j, v, e, e2 => by
    unfold idxF at e
    rw [List.zip_cons_cons, List.lookup_cons]
    by_cases z : n = f
    · rw [if_pos z] at e
      cases e
      simp at e2
      rw [z, e2]; simp
    · rw [if_neg z] at e
      obtain ⟨j', e', rfl⟩ := Option.map_eq_some_iff.mp e
      have : (f == n) = false := by simpa using fun q => z q.symm
      rw [this]
      exact idx_zip e' (by simpa using e2)
theorem idx_none {f : Str} : ∀ {ns : List Str} {vs : List V}, idxF f ns = none → ns.length = vs.length → ∀ y, putF f y (ns.zip vs) = (ns ++ [f]).zip (vs ++ [y])
  | [], vs, _, l, y => by
    have : vs = [] := List.eq_nil_of_length_eq_zero l.symm
    subst this; rfl
  | n :: ns, [], _, l, _ => by cases l
  | n :: ns, v :: vs, e, l, y => by
    unfold idxF at e
    by_cases z : n = f
    · rw [if_pos z] at e; cases e
    · rw [if_neg z] at e
      have e' : idxF f ns = none := by
        cases q : idxF f ns with
        | none => rfl
        | some j => rw [q] at e; cases e
      show putF f y ((n, v) :: ns.zip vs) = _
      rw [putF, if_neg z, idx_none e' (by simpa using l) y]
      rfl
def fldC (cs : List Str) (f : Str) (c : Cl) : Option Cl := match c.2.1 with
  | .obj c0 ns us => if c0 ∈ cs then match idxF f ns with
    | some j => match us[j]? with
      | some u => some (c.1, (u, fun x => c.2.2 (.obj c0 ns (us.set j x))))
      | none => none
    | none => none else none
  | _ => none
section
variable {F : Fr} {os : Os} {as : SA} {st : Sto} {γ : List (U × V)} {H : Hp} {σ : L2.St} {δ : Dl}
theorem ec_fld {cs : List Str} {f : Str} {te : TE} {w : M Cl} (hc : ∀ c ∈ cs, Cls F.G.K (F.G.at_ c) ∧ NoAttr F.G.K (F.G.at_ c) f) (h : EvC F true te δ w) : EvC F false (tFld F.G.K te f) δ (.bind w fun c => .o (fldC cs f c)) := fun os as st γ σ H c st' S q QQ k => by
  obtain ⟨c1, st1, q1, q2⟩ := M.bind_inv q
  obtain ⟨e, rfl⟩ := M.o_inv q2
  refine h os as st γ σ H c1 _ S q1 _ fun x H1 as1 g1 S1 p1 => ?_
  obtain ⟨a, A, A1, A', A2, e0, eA, o, pl⟩ := p1.ex
  obtain ⟨i, u1, f1⟩ := c1
  cases u1 with
  | obj c0 ns us =>
    obtain ⟨b, dx, vs, B, e1, e2, e3, l, z⟩ := (show ownC F.G (rts as1) (ban F os as1) (.obj c0 ns us) x H1 A' from o)
    simp only [fldC] at e
    by_cases hm : c0 ∈ cs
    · rw [if_pos hm] at e
      cases ej : idxF f ns with
      | none => rw [ej] at e; cases e
      | some j =>
        rw [ej] at e
        simp only at e
        cases eu : us[j]? with
        | none => rw [eu] at e; cases e
        | some u =>
          rw [eu] at e
          simp only at e
          cases e
          obtain ⟨v, B1, B', B2, f1', f2, f3, f4⟩ := ownFs_split z eu
          refine ⟨b, F.G.at_ c0, dx, _, v, e1, e3, (hc c0 hm).1, (hc c0 hm).2, idx_zip ej f1', ?_⟩
          refine k v H1 as1 g1 S1 ⟨a, A, A1 ++ b :: B1, B', B2 ++ A2, e0, by rw [eA, e2, f2]; simp, f3, fun rs2 B2' H3 u2 A'2 t1 t3 o2 => ?_⟩
          have := pl rs2 B2' H3 (.obj c0 ns (us.set j u2)) (b :: (B1 ++ (A'2 ++ B2))) t1 (fun b z => t3 b (z.imp (fun z => List.mem_append_left _ z) fun z => List.mem_append_right _ z)) ⟨b, dx, vs, B1 ++ (A'2 ++ B2), e1, rfl, by rw [t3 b (.inl (List.mem_append_right _ List.mem_cons_self))]; exact e3, by rw [List.length_set]; exact l, f4 rs2 B2' H3 u2 A'2 t1 (fun b z => t3 b (z.imp (fun z => List.mem_append_right _ (List.mem_cons_of_mem _ z)) fun z => List.mem_append_left _ z)) o2⟩
          simpa using this
    · rw [if_neg hm] at e; cases e
  | _ => cases e
theorem fl_set {i : Nat} {x : Addr} {A0 A A1 : List Addr} (hp : A1.Perm (A0 ++ A)) : ∀ {as : SA}, as[i]? = some (x, A0) → (fl (as.set i (x, A1))).Perm (A ++ fl as) := by
  induction i with
  | zero =>
    intro as e
    cases as with
    | nil => simp at e
    | cons p as =>
      simp at e; subst e
      show (A1 ++ fl as).Perm (A ++ (A0 ++ fl as))
      rw [← List.append_assoc]
      exact (hp.trans List.perm_append_comm).append_right _
  | succ i ih =>
    intro as e
    cases as with
    | nil => simp at e
    | cons p as =>
      have := ih (as := as) (by simpa using e)
      show (p.2 ++ fl (as.set i (x, A1))).Perm (A ++ (p.2 ++ fl as))
      refine (List.Perm.append_left p.2 this).trans ?_
      rw [← List.append_assoc, ← List.append_assoc]
      exact (List.perm_append_comm).append_right _
theorem rts_set {i : Nat} {x : Addr} {A0 A : List Addr} {as : SA} (e : as[i]? = some (x, A0)) : rts (as.set i (x, A)) = rts as := by
  unfold rts
  rw [List.map_set]
  apply List.ext_getElem?
  intro j
  by_cases z : i = j
  · subst z
    have hl := getElem?_lt e
    rw [List.getElem?_set_self (by rw [List.length_map]; exact hl), List.getElem?_map, e]; rfl
  · rw [List.getElem?_set_ne z]
theorem StOk.put {G : Cxt} {B : Bn} {rs : List Addr} {H H' : Hp} (hk : ∀ u v, im G rs B u v H → im G rs B u v H') : ∀ {as : SA} {st : Sto} {i : Nat} {p p' : Addr × List Addr} {u : U}, StOk G B rs as st H → as[i]? = some p → (∀ (j : Nat) (q : Addr × List Addr), as[j]? = some q → j ≠ i → ∀ b ∈ q.2, H' b = H b) → ownC G rs B u (.ref p'.1) H' p'.2 → StOk G B rs (as.set i p') (st.set i u) H'
  | q :: as, s :: st, 0, p, p', u, ⟨h1, h2⟩, e, kp, o => ⟨o, by
      have : ∀ {as : SA} {st : Sto} (n : Nat), (∀ (j : Nat) (q : Addr × List Addr), as[j]? = some q → ∀ b ∈ q.2, H' b = H b) → StOk G B rs as st H → StOk G B rs as st H' := by
        intro as
        induction as with
        | nil => intro st n _ h; cases st <;> exact h
        | cons q as ih =>
          intro st n kp h
          cases st with
          | nil => exact h
          | cons s st => exact ⟨ownC_mono hk _ _ _ (fun b m => kp 0 q rfl b m) h.1, ih n (fun j q e b m => kp (j + 1) q (by simpa using e) b m) h.2⟩
      exact this 0 (fun j q e b m => kp (j + 1) q (by simpa using e) (by omega) b m) h2⟩
  | q :: as, s :: st, i + 1, p, p', u, ⟨h1, h2⟩, e, kp, o => ⟨ownC_mono hk _ _ _ (fun b m => kp 0 q rfl (by omega) b m) h1, StOk.put hk (i := i) h2 (by simpa using e) (fun j q e' ne b m => kp (j + 1) q (by simpa using e') (by omega) b m) o⟩
  | [], [], _, _, _, _, _, e, _, _ => by simp at e
theorem sa_disj {b : Addr} : ∀ {as : SA} {i j : Nat} {p q : Addr × List Addr}, (fl as).Nodup → as[i]? = some p → as[j]? = some q → b ∈ p.2 → b ∈ q.2 → i = j
  | [], _, _, _, _, _, e, _, _, _ => by simp at e
  | r :: as, 0, 0, _, _, _, _, _, _, _ => rfl
  | r :: as, 0, j + 1, p, q, nd, e1, e2, m1, m2 => by
    have nd' := List.nodup_append.mp (show (r.2 ++ fl as).Nodup from nd)
    simp at e1; subst e1
    exact absurd rfl (nd'.2.2 b m1 b (mem_fl (List.mem_of_getElem? (show as[j]? = some q by simpa using e2)) m2))
  | r :: as, i + 1, 0, p, q, nd, e1, e2, m1, m2 => by
    have nd' := List.nodup_append.mp (show (r.2 ++ fl as).Nodup from nd)
    simp at e2; subst e2
    exact absurd rfl (nd'.2.2 b m2 b (mem_fl (List.mem_of_getElem? (show as[i]? = some p by simpa using e1)) m1))
  | r :: as, i + 1, j + 1, p, q, nd, e1, e2, m1, m2 => by
    have nd' := List.nodup_append.mp (show (r.2 ++ fl as).Nodup from nd)
    rw [sa_disj nd'.2.1 (show as[i]? = some p by simpa using e1) (show as[j]? = some q by simpa using e2) m1 m2]
theorem SDo.give {k i : Nat} {A A0 A1 : List Addr} {x b : Addr} {o : HO} {u : U} {H' : Hp} (S : SDo F ((k, A) :: os) as st γ H σ δ) (hp : A1.Perm (A0 ++ A)) (hk : δ.length ≤ k) (e0 : as[i]? = some (x, A0)) (mb : b ∈ A0) (eb : H b = some o) (nt : ∀ xs, o ≠ .tup xs) (nf : ∀ y z, o ≠ .frz y z)
    (kp : ∀ c y, H c = some y → c ≠ b → c ∉ A → H' c = some y) (al : ∀ c, H c ≠ none → H' c ≠ none) (ntA : ∀ c ∈ A, ∀ xs, H c ≠ some (.tup xs)) (nfA : ∀ c ∈ A, ∀ y z, H c ≠ some (.frz y z)) (ow : (∀ v w, im F.G (rts as) (ban F ((k, A) :: os) as) v w H → im F.G (rts as) (ban F os (as.set i (x, A1))) v w H') → ownC F.G (rts as) (ban F os (as.set i (x, A1))) u (.ref x) H' A1) :
    SDo F os (as.set i (x, A1)) (st.set i u) γ H' σ δ := by
  have pm := fl_set hp e0
  have mfl : ∀ c, c ∈ fl (as.set i (x, A1)) ↔ c ∈ A ∨ c ∈ fl as := fun c => by rw [pm.mem_iff, List.mem_append]
  have bb : ∀ c, ban F os (as.set i (x, A1)) c ↔ ban F ((k, A) :: os) as c := fun c => by
    rw [ban_cons]
    unfold ban
    rw [mfl]
    constructor
    · rintro (h | h | h | h)
      · exact .inr (.inl h)
      · exact .inr (.inr (.inl h))
      · exact .inl h
      · exact .inr (.inr (.inr h))
    · rintro (h | h | h | h)
      · exact .inr (.inr (.inl h))
      · exact .inl h
      · exact .inr (.inl h)
      · exact .inr (.inr (.inr h))
  have hbb : ban F ((k, A) :: os) as b := .inr (.inr (mem_fl (List.mem_of_getElem? e0) mb))
  have hA : ∀ c ∈ A, ban F ((k, A) :: os) as c := fun c m => .inr (.inl (List.mem_append_left _ m))
  have rb : RB (ban F ((k, A) :: os) as) H H' :=
    ⟨fun c y n e => kp c y e (fun z => n (by rw [z]; exact hbb)) fun m => n (hA c m), fun c xs e => kp c _ e (fun z => by rw [z, eb] at e; exact nt xs (Option.some.inj e)) fun m => ntA c m xs e, fun c y z e => kp c _ e (fun q => by rw [q, eb] at e; exact nf y z (Option.some.inj e)) fun m => nfA c m y z e, fun c _ n => al c n⟩
  have up : ∀ v w, im F.G (rts as) (ban F ((k, A) :: os) as) v w H → im F.G (rts as) (ban F os (as.set i (x, A1))) v w H' := fun v w h => im_sub (fun c _ z => (bb c).mp z) _ _ (im_st rb _ _ h)
  have tp : ∀ c xs, H c = some (.tup xs) → H' c = some (.tup xs) := fun c xs e => rb.tup c xs e
  have nd : (A ++ (flo os ++ fl as)).Nodup := by rw [← List.append_assoc]; exact S.nd
  have nd1 := List.nodup_append.mp nd
  have ndf := (List.nodup_append.mp nd1.2.1).2.1
  have rse := rts_set (A := A1) e0
  refine ⟨fun p m => by rw [rse]; exact up _ _ (S.gh p m), ⟨⟨fun c y n e => ?_, fun c xs e => tp c xs (S.rel.rb.tup c xs e), fun c y z e => rb.frz c y z (S.rel.rb.frz c y z e), fun c _ n => al c (S.rel.alive n)⟩, fun j c e => by rw [rse]; exact S.rel.pre j c e, fun c m => ?_⟩, fun c z => al c (S.ok c ((bb c).mp z)), ?_, (List.nodup_cons.mp S.ix).2, fun c m => S.new c (List.mem_append_right A m), fun c z => ?_, ?_, S.len, fun j s e => ?_⟩
  · refine kp c y (S.rel.rb.keep c y n e) (fun z => ?_) fun m => ?_
    · rcases S.rel.new c (by rw [z]; exact mem_fl (List.mem_of_getElem? e0) mb) with w | w
      · exact n w
      · rw [e] at w; cases w
    · have := S.new c (List.mem_append_left _ m)
      rw [e] at this; cases this
  · rcases (mfl c).mp m with m | m
    · exact .inr (S.new c (List.mem_append_left _ m))
    · exact S.rel.new c m
  · have : (flo os ++ fl (as.set i (x, A1))).Perm (A ++ (flo os ++ fl as)) := by
      refine (List.Perm.append_left (flo os) pm).trans ?_
      rw [← List.append_assoc, ← List.append_assoc]
      exact (List.perm_append_comm).append_right _
    exact this.nodup_iff.mpr nd
  · rcases z with z | z
    · exact S.nb c (.inl (List.mem_append_right A z))
    · rcases (mfl c).mp z with m | m
      · exact S.nb c (.inl (List.mem_append_left _ m))
      · exact S.nb c (.inr m)
  · rw [rse]
    have s0 : StOk F.G (ban F os (as.set i (x, A1))) (rts as) as st H := StOk.mono (fun v w h => im_sub (fun c _ z => (bb c).mp z) _ _ h) (fun _ _ h => h) (fun _ _ => rfl) S.sto
    have hk2 : ∀ v w, im F.G (rts as) (ban F os (as.set i (x, A1))) v w H → im F.G (rts as) (ban F os (as.set i (x, A1))) v w H' := fun v w h => up v w (im_sub (fun c _ z => (bb c).mpr z) _ _ h)
    refine StOk.put hk2 s0 e0 (fun j q eq ne c m => ?_) (ow up)
    have mf : c ∈ fl as := mem_fl (List.mem_of_getElem? eq) m
    cases e : H c with
    | none => exact absurd e (S.ok c (.inr (.inr mf)))
    | some y =>
      refine kp c y e (fun z => ne ?_) fun mA => nd1.2.2 c mA c (List.mem_append_right _ mf) rfl
      subst z
      exact sa_disj ndf eq e0 m mb
  · obtain ⟨v, h1, h2⟩ := S.at_ j s e
    refine ⟨v, h1, ?_⟩
    match s, h2 with
    | .im u, h2 => show im F.G _ _ _ _ _; rw [rse]; exact up _ _ h2
    | .raw _, h2 => exact h2
    | .own sh u, ⟨C, m, h2⟩ =>
      have m' : (j, C) ∈ os := by
        rcases List.mem_cons.mp m with z | m
        · have := getElem?_lt e
          have : j = k := (Prod.mk.inj z).1
          omega
        · exact m
      refine ⟨C, m', ?_⟩
      rw [rse]
      refine own_mono up tp _ _ _ _ (fun c mc => ?_) h2
      have mo : c ∈ flo os := mem_flo m' mc
      cases ec : H c with
      | none => exact absurd ec (S.ok c (.inr (.inl (List.mem_append_right A mo))))
      | some y =>
        refine kp c y ec (fun z => ?_) fun mA => nd1.2.2 c mA c (List.mem_append_left _ mo) rfl
        exact (List.nodup_append.mp nd1.2.1).2.2 c mo b (mem_fl (List.mem_of_getElem? e0) mb) z
end
def newF (cs : List Str) (f : Str) (c : Cl) (x : U) : Option U := match c.2.1 with
  | .obj c0 ns us => if c0 ∈ cs ∧ idxF f ns = none ∧ ns.length = us.length ∧ us.length < 1000 then some (c.2.2 (.obj c0 (ns ++ [f]) (us ++ [x]))) else none
  | _ => none
section
variable {F : Fr} {os : Os} {as : SA} {st : Sto} {γ : List (U × V)} {H : Hp} {σ : L2.St} {δ : Dl}
theorem ownFs_snoc {G : Cxt} {rs rs2 : List Addr} {B B2 : Bn} {H H2 : Hp} {u : U} {v : V} {A' : List Addr} (t : ∀ u v, im G rs B u v H → im G rs2 B2 u v H2) (h' : ownF G rs2 B2 u v H2 A') : ∀ {us : List U} {vs : List V} {A : List Addr}, (∀ a ∈ A, H2 a = H a) → ownFs G rs B us vs H A → ownFs G rs2 B2 (us ++ [u]) (vs ++ [v]) H2 (A ++ A')
  | [], _, _, _, ⟨e1, e2⟩ => by subst e1 e2; exact ⟨v, [], A', [], rfl, by simp, h', rfl, rfl⟩
  | x :: us, _, A, k, ⟨y, r, A1, A2, e1, e2, h1, h2⟩ => by
    subst e1 e2
    exact ⟨y, r ++ [v], A1, A2 ++ A', rfl, by simp, ownF_mono t x y A1 (fun a m => k a (List.mem_append_left _ m)) h1, ownFs_snoc t h' (fun a m => k a (List.mem_append_right _ m)) h2⟩
theorem ownF_notup {G : Cxt} {rs : List Addr} {B : Bn} {H : Hp} : (∀ (u : U) (v : V) (A : List Addr), ownF G rs B u v H A → ∀ c ∈ A, (∀ xs, H c ≠ some (.tup xs)) ∧ ∀ y z, H c ≠ some (.frz y z)) := by
  have key : ∀ (n : Nat), (∀ (u : U) (v : V) (A : List Addr), sizeOf u ≤ n → ownF G rs B u v H A → ∀ c ∈ A, (∀ xs, H c ≠ some (.tup xs)) ∧ ∀ y z, H c ≠ some (.frz y z)) ∧ (∀ (us : List U) (vs : List V) (A : List Addr), sizeOf us ≤ n → ownFs G rs B us vs H A → ∀ c ∈ A, (∀ xs, H c ≠ some (.tup xs)) ∧ ∀ y z, H c ≠ some (.frz y z)) := by
    intro n
    induction n with
    | zero =>
      constructor
      · intro u v A hs
        cases u <;> simp at hs
      · intro us vs A hs
        cases us <;> simp at hs
    | succ n ih =>
      constructor
      · intro u v A hs h c m
        cases u with
        | lst us =>
          obtain ⟨a, vs, A', e1, e2, e3, q⟩ := h
          rw [e2] at m
          rcases List.mem_cons.mp m with z | m
          · subst z; exact ⟨(fun xs z => by rw [e3] at z; cases z), fun y z w => by rw [e3] at w; cases w⟩
          · exact ih.2 us vs A' (by simp at hs; omega) q c m
        | dct ks us =>
          obtain ⟨a, vs, A', e1, e2, e3, l, q⟩ := h
          rw [e2] at m
          rcases List.mem_cons.mp m with z | m
          · subst z; exact ⟨(fun xs z => by rw [e3] at z; cases z), fun y z w => by rw [e3] at w; cases w⟩
          · exact ih.2 us vs A' (by simp at hs; omega) q c m
        | dcT ks us =>
          obtain ⟨a, vs, A', e1, e2, e3, l, q⟩ := h
          rw [e2] at m
          rcases List.mem_cons.mp m with z | m
          · subst z; exact ⟨(fun xs z => by rw [e3] at z; cases z), fun y z w => by rw [e3] at w; cases w⟩
          · exact ih.2 us vs A' (by simp at hs; omega) q c m
        | _ => rw [h.1] at m; cases m
      · intro us vs A hs h c m
        cases us with
        | nil => rw [h.2] at m; cases m
        | cons u us =>
          obtain ⟨v, r, A1, A2, e1, e2, h1, h2⟩ := h
          rw [e2] at m
          rcases List.mem_append.mp m with m | m
          · exact ih.1 u v A1 (by simp at hs; omega) h1 c m
          · exact ih.2 us r A2 (by simp at hs; omega) h2 c m
  intro u v A h
  exact (key (sizeOf u)).1 u v A (Nat.le_refl _) h
theorem blk_fldC {S L : Type} {δn : S → Dl} {δl : L → Dl} {cs : List Str} {f : Str} {j : Nat} {u0 : U} {te : TE} {t2 : TS} {we : M U} {k : M (Out S L)} (hc : ∀ c ∈ cs, Cls F.G.K (F.G.at_ c) ∧ NoAttr F.G.K (F.G.at_ c) f) (he : EvNF F te δ we) (hj : δ[j]? = some (some (.im u0))) (h2 : Blk F t2 δ k δn δl) :
    Blk F (tSeq (sFld F.G.K (tVar j) te f) t2) δ (.bind we fun x => .bind (locM u0) fun c => .bind (.o (newF cs f c x)) fun u => .bind (putC c.1 u) fun _ => k) δn δl := fun D os as st γ σ H o st' Q q P => by
  obtain ⟨x, st1, q1, q2⟩ := M.bind_inv q
  obtain ⟨c, st2, q3, q4⟩ := M.bind_inv q2
  obtain ⟨u, st3, q5, q6⟩ := M.bind_inv q4
  obtain ⟨_, st4, q7, q8⟩ := M.bind_inv q6
  obtain ⟨ed, rfl⟩ := M.o_inv q5
  clear q q2 q4 q6
  refine he os as st γ σ H x st1 Q q1 _ fun xv H1 as1 A g1 S1 px n => ?_
  obtain ⟨k1, hk1, hl1⟩ := nodup_fresh (os.map (·.1)) δ.length
  have S2 := S1 k1 hk1
  obtain ⟨v, ev, pv⟩ := S2.get hj
  refine ⟨v, ev, ?_⟩
  cases u0 with
  | loc i => ?_
  | _ => cases q3
  obtain ⟨a, ea, evv⟩ := pv
  simp only [locM] at q3
  cases es : st1[i]? with
  | none => rw [es] at q3; cases q3
  | some x0 =>
    rw [es] at q3
    simp only at q3
    cases q3
    obtain ⟨⟨a', A0⟩, e1, e2⟩ : ∃ p, as1[i]? = some p ∧ p.1 = a := by
      unfold rts at ea
      rw [List.getElem?_map] at ea
      exact Option.map_eq_some_iff.mp ea
    simp only at e2
    subst e2
    have oc := S2.sto.get e1 es
    cases x0 with
    | obj c0 ns us =>
      simp only [newF, id] at ed
      split at ed
      case isFalse => cases ed
      rename_i hcond
      cases ed
      obtain ⟨b, dx, vs, B, f1, f2, f3, l, z⟩ := oc
      cases f1
      have f2 : A0 = a' :: B := f2
      have lv : ns.length = vs.length := by rw [ownFs_len z]; exact l
      refine ⟨a', F.G.at_ c0, dx, _, evv, f3, (hc c0 hcond.1).1, (hc c0 hcond.1).2, by rw [List.length_zip, lv, Nat.min_self, ownFs_len z]; exact hcond.2.2.2, ?_⟩
      rw [idx_none hcond.2.1 lv]
      unfold putC at q7
      simp only [getElem?_lt es, if_true] at q7
      cases q7
      have nd : (A ++ (flo os ++ fl as1)).Nodup := by rw [← List.append_assoc]; exact S2.nd
      have nA : ∀ c ∈ A, c ≠ a' := fun c m e => (List.nodup_append.mp nd).2.2 c m a' (List.mem_append_right _ (mem_fl (List.mem_of_getElem? e1) (by rw [f2]; exact List.mem_cons_self))) e
      have nB : ∀ c ∈ B, c ≠ a' := fun c m e => by
        have := sa_nodup as1 i (List.nodup_append.mp (List.nodup_append.mp nd).2.1).2.1 e1
        rw [f2] at this
        exact (List.nodup_cons.mp this).1 (e ▸ m)
      refine h2 D os _ _ γ σ _ o st' (S2.give (i := i) (x := a') (b := a') (A0 := A0) (A1 := A0 ++ A) (H' := upd H1 a' (.ins (F.G.at_ c0) dx ((ns ++ [f]).zip (vs ++ [xv])))) (List.Perm.refl _) hl1 e1 (by rw [f2]; exact List.mem_cons_self) f3 (fun _ z => nomatch z) (fun _ _ z => nomatch z) (fun c y e ne _ => by rw [upd_ne ne]; exact e) (fun c ne => ?_) (fun c m xs => (ownF_notup _ _ _ px c m).1 xs) (fun c m y z => (ownF_notup _ _ _ px c m).2 y z) fun up => ?_) q8 P
      · by_cases z : c = a'
        · rw [z, upd_same]; exact fun q => nomatch q
        · rw [upd_ne z]; exact ne
      · refine ⟨a', dx, vs ++ [xv], B ++ A, rfl, by rw [f2]; rfl, upd_same, by rw [List.length_append, List.length_append, l]; rfl, ?_⟩
        exact ownFs_snoc up (ownF_mono up _ _ _ (fun c m => upd_ne (nA c m)) px) (fun c m => upd_ne (nB c m)) z
    | _ => cases ed
end
structure LSF (F : Fr) (os : Os) (k0 : Nat) (D : Addr) (as : SA) (st : Sto) (γ : List (U × V)) (H : Hp) (σ : L2.St) (δ : Dl) (accU : List U) (A : List Addr) : Prop where
  S : SDo F ((k0, D :: A) :: os) as st γ H σ δ
  a : ∃ acc, H D = some (.lst acc) ∧ ownFs F.G (rts as) (ban F ((k0, D :: A) :: os) as) accU acc H A
section
variable {F : Fr} {os : Os} {as as' : SA} {st st' : Sto} {γ : List (U × V)} {H H' : Hp} {σ : L2.St} {δ : Dl} {k0 : Nat} {D : Addr} {accU : List U} {A : List Addr}
theorem ownFs_go {os : Os} {us : List U} {vs : List V} {A : List Addr} (g : Go as as' H H') (h : ownFs F.G (rts as) (ban F os as) us vs H A) (k : ∀ a ∈ A, a ∉ fl as) (al : ∀ a ∈ A, H a ≠ none) : ownFs F.G (rts as') (ban F os as') us vs H' A :=
  ownFs_mono (fun _ _ h => im_go g h) _ _ _ (fun a m => by
    cases e : H a with
    | none => exact absurd e (al a m)
    | some o => exact g.rb.keep a o (k a m) e) h
theorem LSF.go (l : LSF F os k0 D as st γ H σ δ accU A) {σ' : L2.St} {δ' : Dl} (g : Go as as' H H') (S : SDo F ((k0, D :: A) :: os) as' st' γ H' σ' δ') : LSF F os k0 D as' st' γ H' σ' δ' accU A := by
  obtain ⟨acc, e, h⟩ := l.a
  have nf : ∀ a ∈ D :: A, a ∉ fl as := fun a m q => (List.nodup_append.mp l.S.nd).2.2 a (List.mem_append_left _ m) a q rfl
  exact ⟨S, acc, g.rb.keep _ _ (nf D List.mem_cons_self) e, ownFs_go g h (fun a m => nf a (List.mem_cons_of_mem _ m)) fun a m => l.S.ok a (.inr (.inl (List.mem_append_left _ (List.mem_cons_of_mem _ m))))⟩
theorem LSF.push {k : Nat} {B : List Addr} (l : LSF F os k0 D as st γ H σ δ accU A) (hk : δ.length ≤ k0) (hk1 : δ.length ≤ k) (hko : k0 ∉ os.map (·.1)) {u : U} {y : V} {as2 : SA} {st2 : Sto} {H2 : Hp} (g : Go as as2 H H2) (S2 : SDo F ((k, B) :: (k0, D :: A) :: os) as2 st2 γ H2 σ δ) (hB : ∀ a ∈ B, H a = none) (p : ownF F.G (rts as2) (ban F ((0, B) :: (k0, D :: A) :: os) as2) u y H2 B) :
    ∃ acc, H2 D = some (.lst acc) ∧ acc.length = accU.length ∧ LSF F os k0 D as2 st2 γ (upd H2 D (.lst (acc ++ [y]))) σ δ (accU ++ [u]) (A ++ B) := by
  obtain ⟨acc, e, h⟩ := l.a
  have nf : ∀ a ∈ D :: A, a ∉ fl as := fun a m q => (List.nodup_append.mp l.S.nd).2.2 a (List.mem_append_left _ m) a q rfl
  have al : ∀ a ∈ D :: A, H a ≠ none := fun a m => l.S.ok a (.inr (.inl (List.mem_append_left _ m)))
  have e2 : H2 D = some (.lst acc) := g.rb.keep _ _ (nf D List.mem_cons_self) e
  have h2 : ownFs F.G (rts as2) (ban F ((k, B) :: (k0, D :: A) :: os) as2) accU acc H2 A := by
    have h1 : ownFs F.G (rts as) (ban F ((k, B) :: (k0, D :: A) :: os) as) accU acc H A := ownFs_mono (fun _ _ z => im_sub (sub_cons hB) _ _ z) _ _ _ (fun _ _ => rfl) h
    exact ownFs_go (os := (k, B) :: (k0, D :: A) :: os) g h1 (fun a m => nf a (List.mem_cons_of_mem _ m)) fun a m => al a (List.mem_cons_of_mem _ m)
  have S3 := S2.merge (k := k0) hk hk1 hko
  have c : Chg F ((k0, (D :: A) ++ B) :: os) as2 H2 (upd H2 D (.lst (acc ++ [y]))) k0 ((D :: A) ++ B) ((D :: A) ++ B) D := chg_same List.mem_cons_self List.mem_cons_self S3 e2 (fun _ z => nomatch z) (fun _ _ z => nomatch z)
  have S4 := S3.mut c (x := none) (fun _ z => nomatch z)
  have so := setOs_same S3.ix (List.mem_cons_self (a := (k0, (D :: A) ++ B)) (l := os))
  rw [so, List.set_eq_of_length_le hk] at S4
  have bb : ∀ a, ban F ((k0, (D :: A) ++ B) :: os) as2 a → ban F ((k, B) :: (k0, D :: A) :: os) as2 a := fun a b => by
    rw [ban_cons, List.mem_append] at b
    rw [ban_cons, ban_cons]
    rcases b with (h | h) | h
    · exact .inr (.inl h)
    · exact .inl h
    · exact .inr (.inr h)
  have up : ∀ u v, im F.G (rts as2) (ban F ((k, B) :: (k0, D :: A) :: os) as2) u v H2 → im F.G (rts as2) (ban F ((k0, D :: (A ++ B)) :: os) as2) u v (upd H2 D (.lst (acc ++ [y]))) := fun u v h => by
    have h1 : im F.G (rts as2) (ban F ((k0, (D :: A) ++ B) :: os) as2) u v H2 := im_sub (fun a _ b => bb a b) _ _ h
    have := c.im h1
    rw [so] at this
    exact this
  have nd : ((D :: A) ++ B).Nodup := os_nodup _ (List.nodup_append.mp S3.nd).1 List.mem_cons_self
  have nD := (List.nodup_cons.mp (show (D :: (A ++ B)).Nodup from nd)).1
  refine ⟨acc, e2, ownFs_len h, S4, acc ++ [y], upd_same, ?_⟩
  exact ownFs_snoc up (ownF_mono up _ _ _ (fun a m => upd_ne fun z => nD (z ▸ List.mem_append_right _ m)) p) (fun a m => upd_ne fun z => nD (z ▸ List.mem_append_left _ m)) h2
end
section
variable {F : Fr} {δ : Dl} {wi : TI} {g : TG} {tt : TT} {te : TE} {vs : List Nat} {wl : M (List U)}
theorem enf_lc {wt : U → M Bool} {we : U → M U} (no : noOwn δ vs = true) (hs : Src F wi δ wl)
    (hb : ∀ u st r, wt u st = some r → ∃ δ', TgOk F g vs (wipD δ vs) u δ' ∧ EvT F tt δ' (wt u) ∧ EvNF F te δ' (we u)) : EvNF F (tLc wi g tt te vs) δ (lcW wl wt we) := fun os as st γ σ H c st' S q QQ k => by
  obtain ⟨us, st1, qs, q1⟩ := M.bind_inv q
  obtain ⟨r, st2, qr, q2⟩ := M.bind_inv q1
  obtain ⟨e, rfl⟩ := M.o_inv q2
  clear q q1 q2
  unfold szU at e
  by_cases hsz : r.length ≤ sizeLine
  case neg => rw [if_neg hsz] at e; cases e
  rw [if_pos hsz] at e
  cases e
  refine hs os as st (ghv σ δ vs ++ γ) σ H us st1 (S.ghost (ghv_ok S vs)) qs _ fun J H1 as1 gh g1 S1 W D hD => ?_
  obtain ⟨k0, hk0, hkl⟩ := nodup_fresh (os.map (·.1)) δ.length
  have S2 := S1.grow hk0 hD (Ex.new (o := .lst []) hD) (by rw [upd_same]; exact fun z => nomatch z)
  have hD0 : H D = none := g1.fresh hD
  have hkw : (wipD δ vs).length ≤ k0 := by rw [wipD_len]; exact hkl
  refine ⟨fun i m Hc => m = us.length - i ∧ i ≤ us.length ∧ ∃ as2 st2 accU rest A, Go as as2 H Hc ∧ (∀ a ∈ A, H a = none) ∧ LSF F os k0 D as2 st2 (gh ++ (ghv σ δ vs ++ γ)) Hc (L2.wipe σ vs) (wipD δ vs) accU A ∧ compM wt we (us.drop i) st2 = some (.ok rest, st') ∧ accU ++ rest = r,
    ⟨us.length, by simp, Nat.zero_le _, as1, st1, [], r, [], go_new (H1 := H) g1 hD0, (fun a m => nomatch m), ⟨S2.wipe vs, [], upd_same, rfl, rfl⟩, by rw [List.drop_zero]; exact qr, rfl⟩, ?_⟩
  rintro i m Hc ⟨rfl, hi, as2, st2, accU, rest, A, g2, hA, l2, q2, er⟩
  by_cases hlt : i < us.length
  · right
    refine ⟨W.goes i _ as2 st2 _ _ _ Hc hlt l2.S, fun H' => ∃ m', m' < us.length - i ∧ m' = us.length - (i + 1) ∧ i + 1 ≤ us.length ∧ ∃ as2 st2 accU rest A, Go as as2 H H' ∧ (∀ a ∈ A, H a = none) ∧ LSF F os k0 D as2 st2 (gh ++ (ghv σ δ vs ++ γ)) H' (L2.wipe σ vs) (wipD δ vs) accU A ∧ compM wt we (us.drop (i + 1)) st2 = some (.ok rest, st') ∧ accU ++ rest = r, fun H' ⟨m', h1, h2, h3⟩ => ⟨m', h1, h2, h3⟩, fun x H' y => ?_⟩
    have ed : us.drop i = us[i] :: us.drop (i + 1) := List.drop_eq_getElem_cons hlt
    rw [ed, compM] at q2
    obtain ⟨b, st3, q3, q4⟩ := M.bind_inv q2
    obtain ⟨δ', tg, ht, he⟩ := hb us[i] st2 _ q3
    obtain ⟨ex, px⟩ := W.yields i _ as2 st2 _ _ _ x Hc H' us[i] (List.getElem?_eq_getElem hlt) l2.S y
    have gx : Go as2 as2 Hc H' := Go.of_ex ex
    have l3 := l2.go gx (l2.S.ex ex)
    refine tg.2 _ as2 st2 _ H' _ x l3.S px _ fun σ2 wq S3 => ⟨by rw [wq, wipe_idem], ?_⟩
    have back : ∀ {os4 : Os} {as4 : SA} {st4 : Sto} {H4 : Hp}, SDo F os4 as4 st4 (gh ++ (ghv σ δ vs ++ γ)) H4 σ2 δ' → SDo F os4 as4 st4 (gh ++ (ghv σ δ vs ++ γ)) H4 (L2.wipe σ vs) (wipD δ vs) := fun S4 => by
      have := S4.wipe vs
      rw [wq, wipe_idem, tg.1, wipD_idem] at this
      exact this
    refine ht _ as2 st2 _ σ2 H' b st3 S3 q3 _ fun H3 as3 g3 S4 => ?_
    cases b with
    | false => exact ⟨us.length - (i + 1), by omega, rfl, hlt, as3, st3, accU, rest, A, (g2.trans gx).trans g3, hA, l3.go g3 (back S4), q4, er⟩
    | true =>
      simp only [if_true] at q4 ⊢
      obtain ⟨u, st5, q5, q6⟩ := M.bind_inv q4
      obtain ⟨r', st6, q7, q8⟩ := M.bind_inv q6
      cases q8
      refine he _ as3 st3 _ σ2 H3 u st5 S4 q5 _ fun y H5 as5 B g5 S5 py nB => ?_
      obtain ⟨k1, hk1, hkl1⟩ := nodup_fresh (((k0, D :: A) :: os).map (·.1)) δ.length
      obtain ⟨acc, e1, e2, l5⟩ := (l3.go g3 (back S4)).push hkw (by rw [wipD_len]; exact hkl1) hk0 g5 (back (S5 k1 hk1)) nB py
      refine ⟨acc, e1, ?_, us.length - (i + 1), by omega, rfl, hlt, as5, st5, accU ++ [u], r', A ++ B, go_new (H1 := H) (((g2.trans gx).trans g3).trans g5) hD0, fun a m => ?_, l5, q7, by rw [List.append_assoc]; exact er⟩
      · rw [e2]
        rw [← er, List.length_append, List.length_cons] at hsz
        omega
      · rcases List.mem_append.mp m with z | z
        · exact hA a z
        · exact ((g2.trans gx).trans g3).fresh (nB a z)
  · left
    have e : i = us.length := by omega
    subst e
    rw [List.drop_length] at q2
    cases q2
    rw [List.append_nil] at er
    subst er
    refine ⟨W.stops _ as2 _ _ _ _ Hc l2.S, ?_⟩
    obtain ⟨acc, e1, h1⟩ := l2.a
    refine k _ Hc as2 (D :: A) g2 (fun k hk => ?_) ⟨D, acc, A, rfl, rfl, e1, h1⟩ fun a m => ?_
    · have : SDo F ((k0, D :: A) :: os) as2 _ γ Hc σ δ := SDo.restore (g := []) (vs := vs) S no l2.S.unghost
      exact this.reix hkl hk
    · rcases List.mem_cons.mp m with z | z
      · rw [z]; exact hD0
      · exact hA a z
theorem enf_dK : EvNF F tDNewK δ (.ret (.dct [] [])) := fun os as st γ σ H c st' S q QQ k => by
  cases q
  intro p hp
  refine k _ _ as [p] (Go.of_ex (Ex.new hp)) (fun k hk => S.grow hk hp (Ex.new hp) (by rw [upd_same]; exact fun z => nomatch z)) ⟨p, [], [], rfl, rfl, upd_same, rfl, rfl, rfl⟩ fun a m => by rw [List.mem_singleton] at m; rw [m]; exact hp
end
def keyU : U → Option Key
  | .int i => some (.inl i)
  | .str x => some (.inr x)
  | _ => none
def keysU : List U → Option (List Key)
  | [] => some []
  | u :: us => match keyU u, keysU us with
    | some k, some ks => some (k :: ks)
    | _, _ => none
def tkeyU : U → Option (List Key)
  | .tup us => keysU us
  | _ => none
def idxK {κ : Type} [DecidableEq κ] (k : κ) : List κ → Option Nat
  | [] => none
  | x :: xs => if x = k then some 0 else (idxK k xs).map (· + 1)
section
variable {κ : Type} [DecidableEq κ]
theorem idxK_val {k : κ} : ∀ {ks : List κ} {vs : List V} {j : Nat} {v : V}, idxK k ks = some j → vs[j]? = some v → valV (ks.zip vs) k = some v
  | [], _, _, _, e, _ => by cases e
  | x :: ks, [], _, _, _, e => by simp at e
  | x :: ks, w :: vs, j, v, e, e2 => by
    unfold idxK at e
    rw [List.zip_cons_cons]
    by_cases z : x = k
    · rw [if_pos z] at e
      cases e
      simp at e2
      rw [valV_pos z, e2]
    · rw [if_neg z] at e
      obtain ⟨j', e', rfl⟩ := Option.map_eq_some_iff.mp e
      rw [valV_neg z]
      exact idxK_val e' (by simpa using e2)
theorem idxK_lt {k : κ} : ∀ {ks : List κ} {j : Nat}, idxK k ks = some j → j < ks.length
  | [], _, e => by cases e
  | x :: ks, j, e => by
    unfold idxK at e
    by_cases z : x = k
    · rw [if_pos z] at e; cases e; simp
    · rw [if_neg z] at e
      obtain ⟨j', e', rfl⟩ := Option.map_eq_some_iff.mp e
      have := idxK_lt e'
      simp; omega
theorem idxK_none {k : κ} : ∀ {ks : List κ} {vs : List V}, idxK k ks = none → valV (ks.zip vs) k = none
  | [], vs, _ => rfl
  | x :: ks, [], _ => rfl
  | x :: ks, w :: vs, e => by
    unfold idxK at e
    by_cases z : x = k
    · rw [if_pos z] at e; cases e
    · rw [if_neg z] at e
      rw [List.zip_cons_cons, valV_neg z]
      refine idxK_none ?_
      cases q : idxK k ks with
      | none => rfl
      | some j => rw [q] at e; cases e
theorem putK_zip {k : κ} {y : V} {ks : List κ} {vs : List V} (l : ks.length = vs.length) (e : idxK k ks = none) : putK (ks.zip vs) k y = (ks ++ [k]).zip (vs ++ [y]) := by
  rw [putK_new y (idxK_none e), List.zip_append l]
  rfl
theorem putK_set {k : κ} {y : V} : ∀ {ks : List κ} {vs : List V} {j : Nat}, ks.length = vs.length → ks.Nodup → idxK k ks = some j → (ks.zip vs).map (fun kv => if kv.1 = k then (kv.1, y) else kv) = ks.zip (vs.set j y)
  | [], _, _, _, _, e => by cases e
  | x :: ks, [], _, l, _, _ => by cases l
  | x :: ks, v :: vs, j, l, nd, e => by
    unfold idxK at e
    have nd' := List.nodup_cons.mp nd
    by_cases z : x = k
    · rw [if_pos z] at e; cases e
      rw [List.zip_cons_cons, List.map_cons, if_pos z, List.set_cons_zero, List.zip_cons_cons]
      congr 1
      have : ∀ p ∈ ks.zip vs, (if p.1 = k then (p.1, y) else p) = p := fun p m => if_neg fun q => nd'.1 (by rw [z, ← q]; exact (List.of_mem_zip m).1)
      rw [List.map_congr_left this, List.map_id']
    · rw [if_neg z] at e
      obtain ⟨j', e', rfl⟩ := Option.map_eq_some_iff.mp e
      rw [List.zip_cons_cons, List.map_cons, if_neg z, putK_set (by simpa using l) nd'.2 e', List.set_cons_succ, List.zip_cons_cons]
end
def sdAppU (node key x : U) : Option U := match node, keyU key with
  | .dct ks us, some k => if ks.length < sizeLine ∧ leafU x = true then match idxK k ks with
    | some j => match us[j]? with
      | some (.lst xs) => if xs.length < sizeLine ∧ xs.all leafU = true then some (.dct ks (us.set j (.lst (xs ++ [x])))) else none
      | _ => none
    | none => some (.dct (ks ++ [k]) (us ++ [.lst [x]])) else none
  | _, _ => none
section
variable {F : Fr} {os : Os} {as : SA} {st : Sto} {γ : List (U × V)} {H : Hp} {σ : L2.St} {δ : Dl}
theorem im_key {G : Cxt} {rs : List Addr} {B : Bn} {u : U} {v : V} {k : Key} (e : keyU u = some k) (h : im G rs B u v H) : v = kV k := by
  cases u <;> simp [keyU] at e
  · subst e; exact h
  · subst e; exact h
theorem HoleC.go0 {r : Bool} {i : Nat} {h : Hl} {v : V} {H' : Hp} (p : HoleC F os as H r i h v) (S : SDo F os as st γ H σ δ) (e : Ex H H') : HoleC F os as H' r i h v := by
  obtain ⟨a, A, A1, A', A2, e0, eA, o, pl⟩ := p.ex
  have kp : ∀ b ∈ A, H' b = H b := fun b m => by
    cases q : H b with
    | none => exact absurd q (S.ok b (.inr (.inr (mem_fl (List.mem_of_getElem? e0) m))))
    | some y => exact e b y q
  have t : ∀ u v, im F.G (rts as) (ban F os as) u v H → im F.G (rts as) (ban F os as) u v H' := fun u v h => im_st (RB.of_ex e) _ _ h
  refine ⟨a, A, A1, A', A2, e0, eA, ?_, fun rs2 B2 H2 u2 A'2 t1 t3 o2 => pl rs2 B2 H2 u2 A'2 (fun u v z => t1 u v (t u v z)) (fun b z => by rw [t3 b z, kp b (by rw [eA]; exact z.elim (fun z => List.mem_append_left _ z) fun z => List.mem_append_right _ (List.mem_append_right _ z))]) o2⟩
  have kA' : ∀ b ∈ A', H' b = H b := fun b m => kp b (by rw [eA]; exact List.mem_append_right _ (List.mem_append_left _ m))
  cases r with
  | true => exact ownC_mono t _ _ _ kA' o
  | false => exact ownF_mono t _ _ _ kA' o
theorem HoleC.key {r : Bool} {i j : Nat} {ks : List Key} {us : List U} {f : U → U} {v : V} {u : U} (p : HoleC F os as H r i (.dct ks us, f) v) (eu : us[j]? = some u) : ∃ d vs w, v = .ref d ∧ H d = some (.dK (ks.zip vs)) ∧ ks.length = us.length ∧ vs.length = us.length ∧ vs[j]? = some w ∧ HoleC F os as H false i (u, fun x => f (.dct ks (us.set j x))) w := by
  obtain ⟨a, A, A1, A', A2, e0, eA, o, pl⟩ := p.ex
  have o : ownF F.G (rts as) (ban F os as) (.dct ks us) v H A' := by cases r <;> exact o
  obtain ⟨d, vs, B, e1, e2, e3, l, z⟩ := o
  obtain ⟨w, B1, B', B2, f1', f2, f3, f4⟩ := ownFs_split z eu
  refine ⟨d, vs, w, e1, e3, l, ownFs_len z, f1', a, A, A1 ++ d :: B1, B', B2 ++ A2, e0, by rw [eA, e2, f2]; simp, f3, fun rs2 B2' H3 u2 A'2 t1 t3 o2 => ?_⟩
  have := pl rs2 B2' H3 (.dct ks (us.set j u2)) (d :: (B1 ++ (A'2 ++ B2))) t1 (fun b z => t3 b (z.imp (fun z => List.mem_append_left _ z) fun z => List.mem_append_right _ z)) (by
    have : ownF F.G rs2 B2' (.dct ks (us.set j u2)) v H3 (d :: (B1 ++ (A'2 ++ B2))) := ⟨d, vs, B1 ++ (A'2 ++ B2), e1, rfl, by rw [t3 d (.inl (List.mem_append_right _ List.mem_cons_self))]; exact e3, by rw [List.length_set]; exact l, f4 rs2 B2' H3 u2 A'2 t1 (fun b z => t3 b (z.imp (fun z => List.mem_append_right _ (List.mem_cons_of_mem _ z)) fun z => List.mem_append_left _ z)) o2⟩
    cases r <;> exact this)
  simpa using this
theorem blk_sdApp {S L : Type} {δn : S → Dl} {δl : L → Dl} {r : Bool} {j : Nat} {x : U} {tp ty : TE} {t2 : TS} {wc : M Cl} {wy : M U} {k : M (Out S L)} (hc : EvC F r tp δ wc) (hy : EvQ F ty δ wy) (hj : δ[j]? = some (some (.im x))) (h2 : Blk F t2 δ k δn δl) :
    Blk F (tSeq (tDrop (tBM F.G.K "list" rAppend (tDSetd tp ty (tLst tNil)) (tCons (tVar j) tNil))) t2) δ (.bind wc fun c => .bind wy fun y => .bind (.o (sdAppU c.2.1 y x)) fun d => .bind (putC c.1 (c.2.2 d)) fun _ => k) δn δl := fun D os as st γ σ H o st' Q q P => by
  obtain ⟨c, st2, q1, q2⟩ := M.bind_inv q
  obtain ⟨y, st3, q3, q4⟩ := M.bind_inv q2
  obtain ⟨d, st4, q5, q6⟩ := M.bind_inv q4
  obtain ⟨_, st5, q7, q8⟩ := M.bind_inv q6
  obtain ⟨ed, rfl⟩ := M.o_inv q5
  clear q q2 q4 q6
  refine hc os as st γ σ H c st2 Q q1 _ fun cv H2 as2 g2 S2 p2 => ?_
  obtain ⟨rfl, hq⟩ := hy os as2 st2 γ σ H2 y _ S2 q3
  obtain ⟨i, u1, f1⟩ := c
  cases u1 with
  | dct ks us =>
    simp only [sdAppU] at ed
    cases ek : keyU y with
    | none => rw [ek] at ed; cases ed
    | some key =>
      rw [ek] at ed
      simp only at ed
      split at ed
      case isFalse => cases ed
      rename_i hsz
      obtain ⟨a, A, A1, A', A2, e0, eA, ow, pl⟩ := p2.ex
      have ow' : ownF F.G (rts as2) (ban F os as2) (.dct ks us) cv H2 A' := by cases r <;> exact ow
      obtain ⟨dd, vs, B, e1, e2, e3, l, z⟩ := ow'
      have lv : ks.length = vs.length := by rw [ownFs_len z]; exact l
      refine ⟨dd, e1, .inl ⟨_, .inl e3⟩, hq _ fun yv py => ?_⟩
      have eyv := im_key ek py
      refine ⟨Nat.zero_le _, fun p hp => ?_⟩
      have ndp : dd ≠ p := fun z => by rw [z, hp] at e3; cases e3
      obtain ⟨xv, exv, pxv⟩ := S2.get hj
      refine ⟨ks.zip vs, key, by rw [upd_ne ndp]; exact e3, eyv, by rw [List.length_zip, ← lv, Nat.min_self]; exact hsz.1, fun w hw => ?_, fun hw => ?_⟩
      · cases ei : idxK key ks with
        | none => rw [idxK_none ei] at hw; cases hw
        | some jj =>
          rw [ei] at ed
          simp only at ed
          cases eu : us[jj]? with
          | none => rw [eu] at ed; cases ed
          | some u =>
            rw [eu] at ed
            cases u with
            | lst xs =>
              simp only at ed
              split at ed
              case isFalse => cases ed
              rename_i hxs
              cases ed
              have S3 := S2.ex (Ex.new (o := .lst []) hp)
              obtain ⟨d', vs', w', f1', f2', f3', f4', f5', hole⟩ := (p2.go0 S2 (Ex.new (o := .lst []) hp)).key eu
              have ed' : d' = dd := by rw [e1] at f1'; cases f1'; rfl
              subst ed'
              have ev : vs' = vs := by
                rw [upd_ne ndp, e3] at f2'
                have h1 : ks.zip vs = ks.zip vs' := by injection f2' with q; injection q
                have h2 := congrArg (List.map Prod.snd) h1
                rw [List.map_snd_zip (by omega), List.map_snd_zip (by omega)] at h2
                exact h2.symm
              subst ev
              have ww : w = w' := by rw [idxK_val ei f5'] at hw; cases hw; rfl
              subst ww
              obtain ⟨b, ys, C, g1', g3', zz, nB, lt, fin⟩ := hole.setL (us' := xs ++ [x]) S3
              obtain ⟨zC, hv⟩ := (flat_ownFs hxs.2).mp zz
              subst g1' zC
              refine ⟨.inl ⟨rfl, ys, EL.sqL_of g3'⟩, xv, exv, b, ys, xv, rfl, rfl, g3', by rw [imAll_len hv]; exact hxs.1, ?_⟩
              unfold putC at q7
              simp only [lt, if_true] at q7
              cases q7
              refine h2 D os as2 _ γ σ _ o st' (fin (ys ++ [xv]) fun H4 t4 _ => ?_) q8 P
              refine (flat_ownFs (by simp [hxs.2, hsz.2])).mpr ⟨rfl, imAll_snoc (imAll_map t4 hv) (t4 _ _ (im_st (RB.of_ex (Ex.new hp)) _ _ pxv))⟩
            | _ => cases ed
      · cases ei : idxK key ks with
        | some jj =>
          obtain ⟨w, ew⟩ : ∃ w, vs[jj]? = some w := ⟨_, List.getElem?_eq_getElem (by rw [← lv]; exact idxK_lt ei)⟩
          rw [idxK_val ei ew] at hw; cases hw
        | none =>
          rw [ei] at ed
          simp only at ed
          cases ed
          rw [putK_zip lv ei]
          refine ⟨.inl ⟨rfl, [], EL.sqL_of (by rw [upd_ne ndp.symm]; exact upd_same)⟩, xv, exv, p, [], xv, rfl, rfl, by rw [upd_ne ndp.symm]; exact upd_same, by decide, ?_⟩
          obtain ⟨k1, hk1, hl1⟩ := nodup_fresh (os.map (·.1)) δ.length
          have S3 := S2.grow hk1 hp (Ex.new (o := .lst []) hp) (by rw [upd_same]; exact fun z => nomatch z)
          have lt := S2.sto.lt e0
          unfold putC at q7
          simp only [lt, if_true] at q7
          cases q7
          have nd := sa_nodup as2 i (List.nodup_append.mp S2.nd).2.1 e0
          rw [eA, e2] at nd
          have nd1 := List.nodup_append.mp nd
          have nd2 := List.nodup_cons.mp nd1.2.1
          have np : ∀ c ∈ A, c ≠ p := fun c m e => S2.ok c (.inr (.inr (mem_fl (List.mem_of_getElem? e0) m))) (e ▸ hp)
          have mA1 : ∀ c ∈ A1, c ∈ A := fun c m => by rw [eA]; exact List.mem_append_left _ m
          have mA2 : ∀ c ∈ A2, c ∈ A := fun c m => by rw [eA]; exact List.mem_append_right _ (List.mem_append_right _ m)
          have mB : ∀ c ∈ B, c ∈ A := fun c m => by rw [eA, e2]; exact List.mem_append_right _ (List.mem_append_left _ (List.mem_cons_of_mem _ m))
          refine h2 D os _ _ γ σ _ o st' (S3.give (i := i) (x := a) (b := dd) (A0 := A) (A := [p]) (A1 := A1 ++ ((dd :: (B ++ [p])) ++ A2)) (H' := upd (upd (upd H2 p (.lst [])) dd (.dK ((ks ++ [key]).zip (vs ++ [V.ref p])))) p (.lst ([] ++ [xv]))) ?_ hl1 e0 (by rw [eA, e2]; exact List.mem_append_right _ List.mem_cons_self) (o := .dK (ks.zip vs)) (by rw [upd_ne ndp]; exact e3) (fun _ z => by cases z) (fun _ _ z => by cases z) (fun c w e ne m => ?_) (fun c ne => ?_) (fun c m xs => ?_) (fun c m w z => ?_) fun up => ?_) q8 P
          · rw [eA, e2]
            simp only [List.append_assoc, List.cons_append]
            refine List.Perm.append_left A1 (List.Perm.cons dd (List.Perm.append_left B ?_))
            exact (List.perm_append_comm (l₁ := [p]) (l₂ := A2))
          · rw [List.mem_singleton] at m
            rw [upd_ne m, upd_ne ne]; exact e
          · by_cases z1 : c = p
            · rw [z1, upd_same]; exact fun q => nomatch q
            · rw [upd_ne z1]
              by_cases z2 : c = dd
              · rw [z2, upd_same]; exact fun q => nomatch q
              · rw [upd_ne z2]; exact ne
          · rw [List.mem_singleton] at m; rw [m, upd_same]; exact fun z => nomatch z
          · rw [List.mem_singleton] at m; rw [m, upd_same]; exact fun z => nomatch z
          · have up2 : ∀ u v, im F.G (rts as2) (ban F os as2) u v H2 → im F.G (rts as2) (ban F os (as2.set i (a, A1 ++ ((dd :: (B ++ [p])) ++ A2)))) u v (upd (upd (upd H2 p (.lst [])) dd (.dK ((ks ++ [key]).zip (vs ++ [V.ref p])))) p (.lst ([] ++ [xv]))) := fun u v h => up u v (im_st (RB.of_ex (Ex.new hp)) _ _ (im_sub (sub_cons fun c m => by rw [List.mem_singleton] at m; rw [m]; exact hp) _ _ h))
            refine pl _ _ _ (.dct (ks ++ [key]) (us ++ [.lst [x]])) (dd :: (B ++ [p])) up2 (fun c z => ?_) ?_
            · have cA : c ∈ A := z.elim (mA1 c) (mA2 c)
              rw [upd_ne (np c cA), upd_ne fun e => ?_, upd_ne (np c cA)]
              subst e
              rcases z with z | z
              · exact nd1.2.2 c z c List.mem_cons_self rfl
              · exact nd2.1 (List.mem_append_right _ z)
            · have : ownF F.G (rts as2) (ban F os (as2.set i (a, A1 ++ ((dd :: (B ++ [p])) ++ A2)))) (.dct (ks ++ [key]) (us ++ [.lst [x]])) cv (upd (upd (upd H2 p (.lst [])) dd (.dK ((ks ++ [key]).zip (vs ++ [V.ref p])))) p (.lst ([] ++ [xv]))) (dd :: (B ++ [p])) := by
                refine ⟨dd, vs ++ [.ref p], B ++ [p], e1, rfl, by rw [upd_ne ndp, upd_same], by rw [List.length_append, List.length_append, l]; rfl, ownFs_snoc (u := .lst [x]) (v := .ref p) (A' := [p]) up2 ⟨p, [xv], [], rfl, rfl, upd_same, xv, [], [], [], rfl, rfl, (leaf_ownF hsz.2).mpr ⟨rfl, up2 _ _ pxv⟩, rfl, rfl⟩ (fun c m => ?_) z⟩
                · rw [upd_ne (np c (mB c m)), upd_ne fun e => nd2.1 (by rw [← e]; exact List.mem_append_left _ m), upd_ne (np c (mB c m))]
              cases r <;> exact this
  | _ => cases ed
end
def getU : U → U → Option (Option U)
  | .dct ks us, k => match keyU k with
    | some k => match idxK k ks with
      | some j => (us[j]?).map some
      | none => some none
    | none => none
  | .dcT ks us, k => match tkeyU k with
    | some k => match idxK k ks with
      | some j => (us[j]?).map some
      | none => some none
    | none => none
  | _, _ => none
section
variable {F : Fr} {os : Os} {as : SA} {H : Hp}
theorem im_keys {G : Cxt} {rs : List Addr} {B : Bn} : ∀ {us : List U} {vs : List V} {ks : List Key}, keysU us = some ks → imAll G rs B us vs H → vs = ks.map kV
  | [], _, _, e, h => by cases e; exact h
  | u :: us, _, ks, e, ⟨v, r, ev, h1, h2⟩ => by
    unfold keysU at e
    cases e1 : keyU u with
    | none => rw [e1] at e; cases e
    | some k =>
      cases e2 : keysU us with
      | none => rw [e1, e2] at e; cases e
      | some ks' =>
        rw [e1, e2] at e
        cases e
        rw [ev, im_key e1 h1, im_keys e2 h2]; rfl
end
section
variable {F : Fr} {δ : Dl} {td ty tx ta tb : TE} {wd wk wx wa wb : M U}
def inU (k d : U) : Option U := (getU d k).map fun r => .bl r.isSome
def notInU (k d : U) : Option U := (getU d k).map fun r => .bl (!r.isSome)
def itemU (d k : U) : Option U := (getU d k).join
def int1U : U → Option U
  | .int i => some (.int i)
  | .bl b => some (.int (if b then 1 else 0))
  | _ => none
def max2U : U → U → Option U
  | .int i, .int j => some (.int (if j > i then j else i))
  | _, _ => none
theorem ok_int1 {r : List V → Hp → VK → Prop} (hr : ∀ (i : Int) (H : Hp) (Q : VK), Q (.int i) H → r [.int i] H Q) (hb : ∀ (b : Bool) (H : Hp) (Q : VK), Q (.int (if b then 1 else 0)) H → r [.bl b] H Q) : Op1Ok F r int1U := fun os as H a c x ok ha e QQ k => by
  cases a <;> simp [int1U] at e
  · subst e
    rw [show x = _ from ha]
    exact hb _ _ _ (k _ H (Ex.refl H) rfl)
  · subst e
    rw [show x = _ from ha]
    exact hr _ _ _ (k _ H (Ex.refl H) rfl)
theorem ev_cb2 {r : List V → Hp → VK → Prop} {f : U → U → Option U} (h : ∀ os as H a b c x y, rd F os as a x H → rd F os as b y H → f a b = some c → ∀ QQ : VK, (∀ v H', Ex H H' → im F.G (rts as) (ban F os as) c v H' → QQ v H') → r [x, y] H QQ) (ha : EvR F ta δ wa) (hb : EvR F tb δ wb) : EvW F (tCB r (tCons ta (tCons tb tNil))) δ (op2 f wa wb) := fun os as st γ σ H c st' S q QQ k => by
  obtain ⟨a, st1, qa, q1⟩ := M.bind_inv q
  obtain ⟨b, st2, qb, q2⟩ := M.bind_inv q1
  obtain ⟨e, rfl⟩ := M.o_inv q2
  exact ha os as st γ σ H a st1 S qa _ fun x H1 as1 g1 S1 px => hb os as1 st1 γ σ H1 b _ S1 qb _ fun y H2 as2 g2 S2 py => h os as2 H2 a b c x y (rd_go g2 px) py e QQ fun v H3 e3 p3 => k v H3 as2 ((g1.trans g2).trans (Go.of_ex e3)) (S2.ex e3) p3
theorem ev_max2 (ha : EvR F ta δ wa) (hb : EvR F tb δ wb) : EvW F (tCB (fun xs H Q => ∃ i j, xs = [.int i, .int j] ∧ Q (.int (if j > i then j else i)) H) (tCons ta (tCons tb tNil))) δ (op2 max2U wa wb) := ev_cb2 (fun os as H a b c x y px py e QQ k => by
  cases a <;> cases b <;> simp [max2U] at e
  subst e
  exact ⟨_, _, by rw [show x = _ from px, show y = _ from py], k _ H (Ex.refl H) rfl⟩) ha hb
end
end UX
namespace UX
open PySem PySem.Spec PyProof.Rows L2
open EL (Ex RB BOk Bn TK FnG okG rEqU rNeU)
section
variable {F : Fr} {S L : Type} {δ : Dl} {t2 : TS} {δn : S → Dl} {δl : L → Dl}
theorem blk_par2 {i0 i1 : Nat} {ta tb : TE} {wa wb : M U} {k : U → U → M (Out S L)} (ha : EvW F ta δ wa) (hb : EvW F tb δ wb) (h2 : ∀ a b, Blk F t2 ((δ.set i0 (some (.im a))).set i1 (some (.im b))) (k a b) δn δl) : Blk F (tSeq (tPar i0 i1 (tCons ta (tCons tb tNil))) t2) δ (.bind wa fun a => .bind wb fun b => k a b) δn δl := fun D os as st γ σ H o st' Q q P => by
  obtain ⟨a, st1, q1, q2⟩ := M.bind_inv q
  obtain ⟨b, st2, q3, q4⟩ := M.bind_inv q2
  clear q q2
  exact ha os as st γ σ H a _ Q q1 _ fun x H1 as1 g1 S1 px => hb os as1 st1 γ σ H1 b _ S1 q3 _ fun y H2 as2 g2 S2 py => ⟨x, y, rfl, h2 a b D os as2 st2 γ _ H2 o st' ((S2.set (x := .im a) (im_go g2 px)).set (x := .im b) py) q4 P⟩
end
section
variable {F : Fr} {δ : Dl} {tt : TT} {te : TE}
theorem lcp2 {i j : Nat} {vs : List Nat} {wt : U → U → M Bool} {we : U → U → M U} (hi : i ∈ vs) (hj : j ∈ vs) (h : ∀ a b, EvT F tt ((δ.set i (some (.im a))).set j (some (.im b))) (wt a b) ∧ EvW F te ((δ.set i (some (.im a))).set j (some (.im b))) (we a b)) :
    ∀ u st r, un2 u wt st = some r → ∃ δ', TgOk F (gTup F.G.K 2 (gCons (gName i) (gCons (gName j) gNil))) vs δ u δ' ∧ EvT F tt δ' (un2 u wt) ∧ EvW F te δ' (un2 u we) := by
  intro u st r e
  cases u with
  | tup us => ?_
  | _ => cases e
  match us, e with
  | [a, b], e => exact ⟨_, tg_two hi hj, h a b⟩
end
def zipL (a b : List U) : List U := List.zipWith (fun x y => U.tup [x, y]) a b
def zipU : U → U → Option (List U)
  | .lst a, .lst b => some (zipL a b)
  | .tup a, .tup b => some (zipL a b)
  | _, _ => none
def zipW (w w' : M U) : M (List U) := .bind w fun u => .bind w' fun u' => .o (zipU u u')
theorem zipL_len (a b : List U) : (zipL a b).length = min a.length b.length := List.length_zipWith
theorem zipL_get {a b : List U} {i : Nat} {u : U} (h : (zipL a b)[i]? = some u) : ∃ x y, a[i]? = some x ∧ b[i]? = some y ∧ u = .tup [x, y] := by
  unfold zipL at h
  rw [List.getElem?_zipWith] at h
  cases ea : a[i]? with
  | none => rw [ea] at h; cases h
  | some x =>
    cases eb : b[i]? with
    | none => rw [ea, eb] at h; cases h
    | some y => rw [ea, eb] at h; cases h; exact ⟨x, y, rfl, rfl, rfl⟩
section
variable {F : Fr} {δ : Dl} {te ta tb : TE} {w wa wb : M U}
theorem zip_pair {os : Os} {as : SA} {x y : U} {v v' : V} {H : Hp} {T : Addr} (hT : H T = none) (hx : im F.G (rts as) (ban F os as) x v H) (hy : im F.G (rts as) (ban F os as) y v' H) : im F.G (rts as) (ban F os as) (.tup [x, y]) (.ref T) (upd H T (.tup [v, v'])) :=
  ⟨T, [v, v'], rfl, upd_same, v, [v'], rfl, im_st (RB.of_ex (Ex.new hT)) _ _ hx, v', [], rfl, im_st (RB.of_ex (Ex.new hT)) _ _ hy, rfl⟩
theorem src_zip (ha : EvW F ta δ wa) (hb : EvW F tb δ wb) : Src F (RZ.iZipA F.G.K (tCons ta (tCons tb tNil))) δ (zipW wa wb) := fun os as st γ σ H us st' S q Q k => by
  obtain ⟨u, st1, qu, q1⟩ := M.bind_inv q
  obtain ⟨u', st2, qu', q2⟩ := M.bind_inv q1
  obtain ⟨e, rfl⟩ := M.o_inv q2
  refine ha os as st γ σ H _ _ S qu _ fun v H1 as1 g1 S1 p1 => ?_
  have S1' : SDo F os as1 st1 ([(u, v)] ++ γ) H1 σ δ := S1.ghost fun z m => by rw [List.mem_singleton] at m; rw [m]; exact p1
  refine hb os as1 st1 _ σ H1 _ _ S1' qu' _ fun v' H2 as2 g2 S2 p2 => ?_
  have S3 : SDo F os as2 st' ([(u', v')] ++ ([(u, v)] ++ γ)) H2 σ δ := S2.ghost fun z m => by rw [List.mem_singleton] at m; rw [m]; exact p2
  have pu : im F.G (rts as2) (ban F os as2) u v H2 := S2.gh (u, v) List.mem_cons_self
  have G3 : SDo F os as2 st' ([(u', v'), (u, v)] ++ γ) H2 σ δ := S3
  clear S1 S1' S2 S3 q q1 q2
  cases u <;> cases u' <;> simp [zipU] at e
  · subst e
    obtain ⟨a, vs, rfl, hs, hv⟩ := id pu
    obtain ⟨b, ws, rfl, hs', hv'⟩ := id p2
    refine ⟨a, b, vs, ws, rfl, .inr ⟨EL.sqT_of hs, EL.sqT_of hs', k _ H2 as2 _ (g1.trans g2) G3 ⟨fun i os as st γ σ δ H hi S2 => ?_, fun os as st γ σ δ H S2 => ?_, fun i os as st γ σ δ x H H' z e S2 y => ?_⟩⟩⟩ <;> obtain ⟨a2, vs2, ev2, ht, hv2⟩ := S2.gh _ (List.mem_cons_of_mem _ List.mem_cons_self) <;> obtain ⟨b2, ws2, ev3, ht', hv3⟩ := S2.gh _ List.mem_cons_self <;> cases ev2 <;> cases ev3
    · rw [zipL_len] at hi
      have h1 : i < vs2.length := by rw [imAll_len hv2]; omega
      have h2 : i < ws2.length := by rw [imAll_len hv3]; omega
      exact ⟨vs2, ws2, vs2[i], ws2[i], EL.sqT_of ht, EL.sqT_of ht', List.getElem?_eq_getElem h1, List.getElem?_eq_getElem h2⟩
    · refine ⟨vs2, ws2, EL.sqT_of ht, EL.sqT_of ht', ?_⟩
      rw [zipL_len, imAll_len hv2, imAll_len hv3]
      omega
    · obtain ⟨T, x1, x2, rfl, hT, rfl, f1, f2⟩ := y
      obtain ⟨c, d, e1, e2, rfl⟩ := zipL_get e
      obtain ⟨y1, e3, p3⟩ := imAll_get hv2 e1
      obtain ⟨y2, e4, p4⟩ := imAll_get hv3 e2
      rw [f1 _ (EL.sqT_of ht)] at e3
      rw [f2 _ (EL.sqT_of ht')] at e4
      cases e3; cases e4
      exact ⟨Ex.new hT, zip_pair hT p3 p4⟩
  · subst e
    obtain ⟨a, vs, rfl, nb, hs, hv⟩ := id pu
    obtain ⟨b, ws, rfl, nb', hs', hv'⟩ := id p2
    refine ⟨a, b, vs, ws, rfl, .inl ⟨EL.sqL_of hs, EL.sqL_of hs', k _ H2 as2 _ (g1.trans g2) G3 ⟨fun i os as st γ σ δ H hi S2 => ?_, fun os as st γ σ δ H S2 => ?_, fun i os as st γ σ δ x H H' z e S2 y => ?_⟩⟩⟩ <;> obtain ⟨a2, vs2, ev2, n2, ht, hv2⟩ := S2.gh _ (List.mem_cons_of_mem _ List.mem_cons_self) <;> obtain ⟨b2, ws2, ev3, n3, ht', hv3⟩ := S2.gh _ List.mem_cons_self <;> cases ev2 <;> cases ev3
    · rw [zipL_len] at hi
      have h1 : i < vs2.length := by rw [imAll_len hv2]; omega
      have h2 : i < ws2.length := by rw [imAll_len hv3]; omega
      exact ⟨vs2, ws2, vs2[i], ws2[i], EL.sqL_of ht, EL.sqL_of ht', List.getElem?_eq_getElem h1, List.getElem?_eq_getElem h2⟩
    · refine ⟨vs2, ws2, EL.sqL_of ht, EL.sqL_of ht', ?_⟩
      rw [zipL_len, imAll_len hv2, imAll_len hv3]
      omega
    · obtain ⟨T, x1, x2, rfl, hT, rfl, f1, f2⟩ := y
      obtain ⟨c, d, e1, e2, rfl⟩ := zipL_get e
      obtain ⟨y1, e3, p3⟩ := imAll_get hv2 e1
      obtain ⟨y2, e4, p4⟩ := imAll_get hv3 e2
      rw [f1 _ (EL.sqL_of ht)] at e3
      rw [f2 _ (EL.sqL_of ht')] at e4
      cases e3; cases e4
      exact ⟨Ex.new hT, zip_pair hT p3 p4⟩
end
def gNames : List Nat → TGs
  | [] => gNil
  | i :: is => gCons (gName i) (gNames is)
def imS (δ : Dl) : List Nat → List U → Dl
  | i :: is, u :: us => imS (δ.set i (some (.im u))) is us
  | _, _ => δ
section
variable {F : Fr}
theorem names_ok {vs0 : List Nat} {os : Os} {as : SA} {st : Sto} {γ : List (U × V)} {H : Hp} {Q : L2.St → Hp → Prop} : ∀ {is : List Nat} {us : List U} {vs : List V} {σ : L2.St} {δ : Dl}, (∀ i ∈ is, i ∈ vs0) → is.length = us.length → SDo F os as st γ H σ δ → imAll F.G (rts as) (ban F os as) us vs H → (∀ σ', wipe σ' vs0 = wipe σ vs0 → SDo F os as st γ H σ' (imS δ is us) → Q σ' H) → gNames is vs σ H Q
  | [], [], vs, σ, δ, _, _, S, h, k => ⟨h, k σ rfl S⟩
  | i :: is, u :: us, _, σ, δ, hm, hl, S, ⟨v, r, e, h1, h2⟩, k => ⟨v, r, e, names_ok (fun j m => hm j (List.mem_cons_of_mem _ m)) (by simpa using hl) (S.set (x := .im u) h1) h2 fun σ' w S' => k σ' (by rw [w, wipe_set _ _ _ _ (hm i List.mem_cons_self)]) S'⟩
  | [], _ :: _, _, _, _, _, h, _, _, _ => by cases h
  | _ :: _, [], _, _, _, _, h, _, _, _ => by cases h
theorem wipD_imS {vs0 : List Nat} : ∀ {is : List Nat} {us : List U} {δ : Dl}, (∀ i ∈ is, i ∈ vs0) → wipD (imS δ is us) vs0 = wipD δ vs0
  | [], _, _, _ => by simp [imS]
  | _ :: _, [], _, _ => by simp [imS]
  | i :: is, u :: us, δ, h => by
    rw [imS, wipD_imS fun j m => h j (List.mem_cons_of_mem _ m), wipD_set _ _ _ _ (h i List.mem_cons_self)]
theorem tg_many {is vs : List Nat} {us : List U} {δ : Dl} (h : ∀ i ∈ is, i ∈ vs) (hl : is.length = us.length) : TgOk F (gTup F.G.K is.length (gNames is)) vs δ (.tup us) (imS δ is us) := ⟨wipD_imS h, fun os as st γ H σ v S ⟨p, xs, e, hs, hx⟩ Q k => ⟨p, xs, e, EL.sqT_of hs, by rw [imAll_len hx, hl], names_ok h hl S hx k⟩⟩
def un4 {α : Type} (u : U) (k : U → U → U → U → M α) : M α := match u with
  | .tup [a, b, c, d] => k a b c d
  | _ => .fail
def un5 {α : Type} (u : U) (k : U → U → U → U → U → M α) : M α := match u with
  | .tup [a, b, c, d, e] => k a b c d e
  | _ => .fail
section
variable {α : Type} {P : Dl → M α → Prop} {δ : Dl} {i0 i1 i2 i3 i4 i5 : Nat} {vs : List Nat}
theorem pat6 (h0 : i0 ∈ vs) (h1 : i1 ∈ vs) (h2 : i2 ∈ vs) (h3 : i3 ∈ vs) (h4 : i4 ∈ vs) (h5 : i5 ∈ vs) {k : U → U → U → U → U → U → M α} (h : ∀ a b c d e f, P (imS δ [i0, i1, i2, i3, i4, i5] [a, b, c, d, e, f]) (k a b c d e f)) : ∀ u st r, un6 u k st = some r → ∃ δ', TgOk F (gTup F.G.K 6 (gCons (gName i0) (gCons (gName i1) (gCons (gName i2) (gCons (gName i3) (gCons (gName i4) (gCons (gName i5) gNil))))))) vs δ u δ' ∧ P δ' (un6 u k) := by
  intro u st r e
  cases u <;> first | (cases e; done) | skip
  rename_i us
  match us, e with
  | [a, b, c, d, f, g], e => exact ⟨_, tg_many (is := [i0, i1, i2, i3, i4, i5]) (by simp [h0, h1, h2, h3, h4, h5]) rfl, h a b c d f g⟩
end
end
section
variable {F : Fr} {S L : Type} {δ : Dl} {t2 : TS} {δn : S → Dl} {δl : L → Dl}
end
def vTab (at_ : Str → Addr) : U → Option V
  | .top x => some (.ref (at_ x))
  | .str s => some (.str s)
  | .int i => some (.int i)
  | _ => none
theorem vTab_im {G : Cxt} {rs : List Addr} {B : Bn} {H : Hp} : ∀ {u : U} {v : V}, vTab G.at_ u = some v → im G rs B u v H
  | .top x, _, e => by cases e; rfl
  | .str s, _, e => by cases e; rfl
  | .int s, _, e => by cases e; rfl
structure TabF (K : PySem.W.Frag) (at_ : Str → Addr) (w : World) (d : Addr) (tab : List (Str × U)) : Prop where
  kd : ∃ es n, KDict K w d es n
  val : ∀ z u, tab.lookup z = some u → ∃ u0 v, PySem.W.nsIn K d z = some (some u0) ∧ vTab at_ u = some v ∧ RelV v u0
  no : ∀ z, tab.lookup z = none → PySem.W.nsIn K d z = some none
def rNotTab (K : PySem.W.Frag) (d : Addr) : R2 := fun x y H Q => ∃ (z : Str) (r : Option Value), x = .str z ∧ y = .ref d ∧ PySem.W.nsIn K d z = some r ∧ Q (.bl (!r.isSome)) H
theorem op_notTab {X : Cx} {at_ : Str → Addr} {d : Addr} {tab : List (Str × U)} (T : TabF X.K at_ X.w d tab) : OpR X (compareOp .NotIn) (rNotTab X.K d) := by
  obtain ⟨es, n, D⟩ := T.kd
  exact op_notIn_kd D
def notTabU (nm : Str) (tab : List (Str × U)) : U → U → Option U
  | .str z, .top x => if x = nm then some (.bl (tab.lookup z).isNone) else none
  | _, _ => none
def itemTabU (nm : Str) (tab : List (Str × U)) : U → U → Option U
  | .top x, .str z => if x = nm then tab.lookup z else none
  | _, _ => none
section
variable {F : Fr} {w : World} {nm : Str} {tab : List (Str × U)} {δ : Dl}
theorem ev_top {x : Str} : EvW F (tC (.ref (F.G.at_ x))) δ (.ret (.top x)) := ev_c fun _ _ _ => rfl
theorem ok_notTab (T : TabF F.G.K F.G.at_ w (F.G.at_ nm) tab) : OpOk F (rNotTab F.G.K (F.G.at_ nm)) (notTabU nm tab) := fun os as H a b c x y ok ha hb e QQ k => by
  cases a <;> cases b <;> simp [notTabU] at e
  rename_i z _
  obtain ⟨rfl, rfl⟩ := e
  cases q : tab.lookup z with
  | none => exact ⟨z, none, ha, hb, T.no z q, k _ H (Ex.refl H) (by rw [q]; rfl)⟩
  | some u =>
    obtain ⟨u0, v, h1, _, _⟩ := T.val z u q
    exact ⟨z, some u0, ha, hb, h1, k _ H (Ex.refl H) (by rw [q]; rfl)⟩
theorem ok_itemTab (T : TabF F.G.K F.G.at_ w (F.G.at_ nm) tab) : OpOk F (rIxD F.G.K w) (itemTabU nm tab) := fun os as H a b c x y ok ha hb e QQ k => by
  cases a <;> cases b <;> simp [itemTabU] at e
  rename_i z
  obtain ⟨rfl, e⟩ := e
  obtain ⟨u0, v, h1, h2, h3⟩ := T.val z c e
  obtain ⟨es, n, D⟩ := T.kd
  exact ⟨_, z, v, ha, hb, ⟨es, n, u0, D.at_, D.lit, h1, h3⟩, k _ H (Ex.refl H) (vTab_im h2)⟩
end
def tCallJ (at_ : Str → Addr) (G : Cxt) (i : Nat) (fs : List (Str × (List U → M U))) (E : XK) (t : TA) : TE := fun σ H Q => ∃ p ∈ fs, tCallL i (at_ p.1) (spM G p.2) [] E t σ H Q
theorem pe_callJ {X : Cx} {at_ : Str → Addr} {G : Cxt} {i : Nat} {fs : List (Str × (List U → M U))} {E : XK} {t : TA} {e : Expr} (h : ∀ p ∈ fs, PE X e (tCallL i (at_ p.1) (spM G p.2) [] E t)) : PE X e (tCallJ at_ G i fs E t) :=
  ⟨fun pins s σ H Q I ⟨p, m, q⟩ => (h p m).run pins s σ H Q I q⟩
theorem callJ_nil {X : Cx} {at_ : Str → Addr} {G : Cxt} {i : Nat} {E : XK} {t : TA} {e : Expr} : ∀ p ∈ ([] : List (Str × (List U → M U))), PE X e (tCallL i (at_ p.1) (spM G p.2) [] E t) := fun _ m => nomatch m
theorem callJ_cons {X : Cx} {at_ : Str → Addr} {G : Cxt} {i : Nat} {E : XK} {t : TA} {e : Expr} {x : Str} {f : List U → M U} {l : List (Str × (List U → M U))} (h : PE X e (tCallL i (at_ x) (spM G f) [] E t)) (k : ∀ p ∈ l, PE X e (tCallL i (at_ p.1) (spM G p.2) [] E t)) : ∀ p ∈ (x, f) :: l, PE X e (tCallL i (at_ p.1) (spM G p.2) [] E t) := fun p m => (List.mem_cons.mp m).elim (fun z => z ▸ h) (k p)
def callJM (fs : List (Str × (List U → M U))) (u : U) (wa : M (List U)) : M U := match u with
  | .top x => match fs.lookup x with
    | some f => callM f wa
    | none => .fail
  | _ => .fail
theorem lookup_mem {α : Type} : ∀ {l : List (Str × α)} {x : Str} {a : α}, l.lookup x = some a → (x, a) ∈ l
  | [], _, _, h => nomatch h
  | (y, b) :: l, x, a, h => by
    rw [List.lookup_cons] at h
    split at h
    · rename_i e
      cases h
      rw [show x = y from by simpa using e]
      exact List.mem_cons_self
    · exact List.mem_cons_of_mem _ (lookup_mem h)
theorem ev_callJ {F : Fr} {δ : Dl} {i : Nat} {fs : List (Str × (List U → M U))} {E : XK} {ta : TA} {wa : M (List U)} {u : U} (hi : δ[i]? = some (some (.im u))) (h : EvAW F ta δ wa) : EvW F (tCallJ F.G.at_ F.G i fs E ta) δ (callJM fs u wa) := fun os as st γ σ H c st' S q QQ k => by
  obtain ⟨v, hv, pv⟩ := S.get hi
  cases u with
  | top x => ?_
  | _ => cases q
  have pv : v = .ref (F.G.at_ x) := pv
  subst pv
  simp only [callJM] at q
  cases e : fs.lookup x with
  | none => rw [e] at q; cases q
  | some f =>
    rw [e] at q
    exact ⟨(x, f), lookup_mem e, hv, ev_call (E := E) h os as st γ σ H c st' S q QQ k⟩
theorem pg_tupK {X : Cx} (K : PySem.W.Frag) {es : List Expr} {k : Nat} {t : TGs} {n : Nat} {pos : Pos} (hc : X.calm = true) (h : PGs X es t) (hn : (assignEach es X.env).length = n := by rfl) (hst : (assignEach es X.env).findIdx? (·.1) = none := by rfl) (hK : X.K = K := by rfl) : PG X (.Tuple es k pos) (gTup K n t) := hK ▸ pg_tup hc h hn hst
section
variable {F : Fr} {S L : Type} {δ : Dl} {t2 : TS} {δn : S → Dl} {δl : L → Dl}
end
end UX
namespace UX
open PySem PySem.Spec PyProof.Rows L2
section
variable {X : Cx} (K : PySem.W.Frag)
theorem pe_fldK {e : Expr} {ta : TE} {f : Str} {pos : Pos} (he : PE X e ta) (hb : attributeBase e f X.env (eval e X.env) = eval e X.env) (hK : X.K = K := by rfl) : PE X (.Attribute e f pos) (tFld K ta f) := hK ▸ pe_fld he hb
theorem pi_zipAK {e e2 : Expr} {ta : TA} {p pos tpos : Pos} {elts : List Expr} {kk : Nat} (hg : Gl X "zip") (hm : X.mg "zip" = none) (ha : PA X [e, e2] ta)
    (hs : starEach [e, e2] X.env = (false, eval e X.env) :: starEach [e2] X.env := by rfl) (hpl : (backTo pos (starEach [e2] X.env)).any (·.1) = false := by rfl) (hK : X.K = K := by rfl) :
    PI X (.Tuple elts kk tpos) (.Call (.Name "zip" p) [e, e2] [] pos) (RZ.iZipA K ta) := hK ▸ RZ.pi_zipA hg hm ha hs hpl
theorem ix_kdictK (w : World) (hK : X.K = K := by rfl) (hw : X.w = w := by rfl) : IxR X (rIxD K w) := hK ▸ hw ▸ ix_kdict
theorem op_notTabK {at_ : Str → Addr} {w : World} {d : Addr} {tab : List (Str × U)} (T : TabF K at_ w d tab) (hK : X.K = K := by rfl) (hw : X.w = w := by rfl) : OpR X (compareOp .NotIn) (rNotTab K d) := by
  subst hK hw
  exact op_notTab T
end
open EL (Ex RB BOk Bn TK FnG okG rEqU rNeU)
section
variable {F : Fr} {S L : Type} {δ : Dl} {wi : TI} {g : TG} {tb t1 t2 : TS} {wl : M (List U)} {δ2 δl' : L → Dl} {tt : TT} {wt : M Bool}
theorem blk_forL (dr vs : List Nat) (δl : S → Dl) {f : U → S → M (Out S S)} {s0 : S} (h0 : wipD δ dr = δl s0) (hs : Src F wi δ wl)
    (hb : ∀ s u st r, f u s st = some r → ∃ δ', TgOk F g vs (δl s) u δ' ∧ Blk F tb δ' (f u s) δl δl) : Blk F (tFor wi g tb) δ (.bind wl fun us => forO f us s0) δl δ2 :=
  blk_for (vs := vs) hs (h0 ▸ weak_wip δ dr) fun u s => hb s u
theorem blk_whileL (dr : List Nat) (δl : S → Dl) {tc : TT} {c : S → M Bool} {b : S → M (Out S S)} {s0 : S} (h0 : wipD δ dr = δl s0) (hc : ∀ s, EvT F tc (δl s) (c s))
    (hb : ∀ s, Blk F tb (δl s) (b s) δl δl) : Blk F (tWhile tc tb) δ (whileO c b s0) δl δ2 :=
  blk_while (h0 ▸ weak_wip δ dr) hc hb
theorem blk_ifL (δn : S → Dl) {wo wu : M (Out S L)} (h : EvT F tt δ wt) (h1 : Blk F t1 δ wo δn δl') (h2 : Blk F t2 δ wu δn δl') : Blk F (tIfS tt t1 t2) δ (iteW wt wo wu) δn δl' := blk_if h h1 h2
end
end UX
namespace UX
open PySem PySem.Spec PyProof.Rows L2
section
variable {P : Program} {w : World} {A : Around} {E : Value → Shared → Prop} {s : Shared}
end
end UX
namespace UX
open PySem PySem.Spec PyProof.Rows L2
open EL (Ex RB BOk Bn TK)
def B0 : Int := 1099511627776
def tupI (ns : List Int) : U := .tup (ns.map .int)
def RowsOk (d : Nat) (L : List (List Int)) : Prop := 1 ≤ d ∧ L.length < 64 ∧ ∀ ns ∈ L, ns.length = d ∧ TS.Bd B0 ns
instance (d : Nat) (L : List (List Int)) : Decidable (RowsOk d L) := by unfold RowsOk TS.Bd; infer_instance
def ddp : List (List Int) → List (List Int)
  | [] => []
  | x :: r => if x ∈ ddp r then ddp r else x :: ddp r
section
variable {G : Cxt} {rs : List Addr} {B : Bn} {H H' : Hp}
theorem im_ints : ∀ {ns : List Int}, imAll G rs B (ns.map U.int) (ns.map V.int) H
  | [] => rfl
  | n :: ns => ⟨.int n, ns.map V.int, rfl, rfl, im_ints⟩
end
section
variable {F : Fr}
end
section
variable {fa : List He.Fa} {fn : List He.DefD} {ts : List He.Tab} {vs : List Vls} {w : World} {K : PySem.W.Frag}
theorem SaysU.t (c : SaysU fa fn ts vs w K) : He.SaysT fa fn ts w K := congrArg (fun z : AlU => z.1) c
theorem SaysU.d (c : SaysU fa fn ts vs w K) : He.SaysD fa fn K := c.t.d
theorem SaysU.val (c : SaysU fa fn ts vs w K) (i : Nat) {q : Vls} (h : vs[i]? = some q) : He.valsB K (q.1 K) q.2 = true :=
  List.all_eq_true.mp (show (vs.all fun q => He.valsB K (q.1 K) q.2) = true from congrArg (fun z : AlU => z.2) c) q (List.mem_of_getElem? h)
theorem SaysU.keys (c : SaysU fa fn ts vs w K) (i : Nat) {t : He.Tab} (h : ts[i]? = some t) : He.dicW K (t.1 K) = some (He.keysIn w.params t.2) := by
  have e : ts.map (fun t => He.dicW K (t.1 K)) = ts.map fun t => some (He.keysIn w.params t.2) := congrArg (fun z : He.AlT => z.2) c.t
  have e2 : (ts.map fun t => He.dicW K (t.1 K))[i]? = (ts.map fun t => some (He.keysIn w.params t.2))[i]? := by rw [e]
  rw [List.getElem?_map, List.getElem?_map, h] at e2
  exact Option.some.inj e2
end
theorem keys_no {P : Params} {z : Str} : ∀ {l : List DictEntry} {ks : List Str}, l.map He.keyOf = He.keysIn P ks → z ∉ ks → l.find? (·.key.isStr z) = none ∧ l.any (·.refKey) = false
  | [], _, _, _ => ⟨rfl, rfl⟩
  | e :: r, [], h, _ => by cases h
  | e :: r, k :: ks, h, n => by
    have h1 : He.keyOf e :: r.map He.keyOf = some (k, PyData.keyHash P k) :: He.keysIn P ks := h
    injection h1 with h2 h3
    obtain ⟨i1, i2⟩ := keys_no h3 fun m => n (List.mem_cons_of_mem _ m)
    unfold He.keyOf at h2
    split at h2
    · rename_i x t q
      have h4 := Option.some.inj h2
      have hx : x = k := congrArg Prod.fst h4
      have nz : ¬ x = z := fun e => n (by rw [← hx, e]; exact List.mem_cons_self)
      constructor
      · rw [List.find?_cons, show e.key.isStr z = false by rw [q]; simp [Value.isStr, nz]]
        exact i1
      · rw [List.any_cons, show e.refKey = false by simp [DictEntry.refKey, q], Bool.false_or]
        exact i2
    · cases h2
theorem nsIn_no {K : PySem.W.Frag} {w : World} {a : Addr} {ks : List Str} {z : Str} (h : He.dicW K a = some (He.keysIn w.params ks)) (n : z ∉ ks) : PySem.W.nsIn K a z = some none := by
  obtain ⟨es, m, D⟩ := He.dicW_ok h
  unfold He.dicW at h
  rw [D.at_] at h
  simp only at h
  split at h
  · obtain ⟨h1, h2⟩ := keys_no (Option.some.inj h) n
    unfold PySem.W.nsIn
    rw [D.at_]
    simp only [h1, h2]
    rfl
  · cases h
def dvU : U → He.Dv
  | .top x => .glo x
  | .str s => .str s
  | .int i => .int i
  | _ => .non
theorem tabF {K : PySem.W.Frag} {w : World} {x : Str} {tab : List (Str × U)} (h1 : He.dicW K (He.ga K x) = some (He.keysIn w.params (tab.map (·.1)))) (h2 : He.valsB K (He.ga K x) (tab.map fun p => (p.1, dvU p.2)) = true) (h3 : ∀ p ∈ tab, (vTab (He.ga K) p.2).isSome = true) : TabF K (He.ga K) w (He.ga K x) tab := by
  refine ⟨He.dicW_ok h1, fun z u e => ?_, fun z e => nsIn_no h1 fun m => ?_⟩
  · have m := lookup_mem e
    obtain ⟨u0, q1, q2⟩ := He.valsB_ok h2 (List.mem_map_of_mem (f := fun p : Str × U => (p.1, dvU p.2)) m)
    have hs := h3 _ m
    cases u with
    | top y => exact ⟨u0, _, q1, rfl, q2⟩
    | str y => exact ⟨u0, _, q1, rfl, q2⟩
    | int y => exact ⟨u0, _, q1, rfl, q2⟩
    | _ => cases hs
  · obtain ⟨p, mp, rfl⟩ := List.mem_map.mp m
    have key : ∀ {l : List (Str × U)} {p : Str × U}, p ∈ l → l.lookup p.1 ≠ none := by
      intro l
      induction l with
      | nil => intro p m; cases m
      | cons q l ih =>
        intro p m
        rw [List.lookup_cons]
        split
        · exact fun z => nomatch z
        · rename_i hne
          rcases List.mem_cons.mp m with e | e
          · rw [e] at hne; simp at hne
          · exact ih e
    exact key mp e
theorem allN {α : Type} {P : α → Prop} : ∀ c ∈ ([] : List α), P c := fun _ m => nomatch m
theorem allC {α : Type} {P : α → Prop} {a : α} {l : List α} (h : P a) (k : ∀ c ∈ l, P c) : ∀ c ∈ a :: l, P c := fun c m => (List.mem_cons.mp m).elim (fun e => e ▸ h) (k c)
theorem sp_law {K : PySem.W.Frag} {at_ : Str → Addr} {f : U → M U} (hf : ∀ ns : List Int, ns.length ≤ 63 → ∃ st', f (.frl (ns.map .int)) [] = some (.ok (.bl true), st')) {H : Hp} {a : Addr} {ns : List Int} (hl : ns.length ≤ 63) (hS : SqL K H a (ns.map V.int)) :
    spM ⟨K, at_⟩ (L1 f) [.ref a] H (fun v _ => v = .bl true) fun _ _ _ => False := by
  obtain ⟨st', e⟩ := hf ns hl
  exact ⟨fun _ => False, [], [], [.frl (ns.map .int)], .bl true, st', fun a b => (by rcases b with b | b | b; exact b.elim; cases b; cases b), List.nodup_nil, (fun _ _ z => z), trivial, ⟨.ref a, [], rfl, ⟨a, ns.map V.int, rfl, FrL.of (fun b => by rcases b with b | b | b; exact b; cases b; cases b) hS, im_ints⟩, rfl⟩, e, fun as' v H' r => r.im⟩
end UX
namespace UY
open PySem PySem.Spec PyProof.Rows L2
open UX (getElem?_lt)
section
theorem en_new {v : Value} {ob : Obj} {G : Heap → Prop} (B : Begins v ob G) :
    Meets (Builtin.«enumerate.__new__» ⟨[.type "enumerate", v], []⟩) (fun _ R s => G s.heap ∧
      R (.ok (.ret (.ref (s.heap.push ob).objs.size))) { s with heap := (s.heap.push ob).push { cls := .type "enumerate", data := .fields #[.none, .bool false, .ref s.heap.objs.size, rawInt 0, .none, .none] } }) :=
  .of_wp fun prog w A R s h => by
    obtain ⟨hp, g, d, tk, os⟩ := s
    obtain ⟨g1, h⟩ := h
    have hsb := sub_enumerate
    have it1 : ∀ {A' : Around} {E : Value → Shared → Prop} {Q : Value → Shared → Prop}, Q (.ref hp.objs.size) ⟨hp.push ob, g, d, tk, os⟩ → wpAny (model prog w) A' (pyIter v) Q E ⟨hp, g, d, tk, os⟩ :=
      fun z => B.iter prog w _ _ ⟨hp, g, d, tk, os⟩ _ g1 z
    wp_walk using it1
    refine wpAny_stack_any fun sk => wpAny_pure ?_
    split
    · rename_i c _ _ _ _ _
      cases (c == Value.type "enumerate") <;> (wp_walk using it1; exact ⟨_, rfl, h⟩)
    · wp_walk using it1
      exact ⟨_, rfl, h⟩
variable {prog : Program} {w : World} {A : Around} {E : Value → Shared → Prop} {s : Shared}
theorem en_call {v : Value} {ob : Obj} {G : Heap → Prop} {Q : Value → Shared → Prop} (B : Begins v ob G) (g1 : G s.heap)
    (k : ∀ hp, IsEnum hp (s.heap.objs.size + 1) s.heap.objs.size 0 .none → hp.get? s.heap.objs.size = some ob → hp.objs.size = s.heap.objs.size + 2 → (∀ b u, s.heap.get? b = some u → hp.get? b = some u) → Q (.ref (s.heap.objs.size + 1)) { s with heap := hp }) :
    wpAny (model prog w) A (call (.type "enumerate") [v]) Q E s := by
  have sz : (s.heap.push ob).objs.size = s.heap.objs.size + 1 := Heap.size_push ..
  refine callType_new F.called_enumerate (by decide) (F.typeCall_enumerate_1 _) (F.newCall_enumerate_1 _) (fun x => F.args_object_init_2 x _) F.entry_enumerate_new (en_new B) ⟨g1, ?_⟩
  have z := Heap.get?_push_size (s.heap.push ob) (o := { cls := .type "enumerate", data := .fields #[.none, .bool false, .ref s.heap.objs.size, rawInt 0, .none, .none] }) rfl
  rw [sz] at z
  show _ ∧ _
  rw [sz]
  exact ⟨⟨_, z, rfl⟩, k _ z (Heap.get?_push_of_some _ (Heap.get?_push_size _ B.free)) (by rw [Heap.size_push, sz]) fun b u q => Heap.get?_push_of_some _ (Heap.get?_push_of_some _ q)⟩
end
def ItE (K : PySem.W.Frag) (a : Addr) : It := ⟨fun i H => ∃ (xs : List V) (x : V), SqT K H a xs ∧ xs[i]? = some x, fun i H v H' => ∃ T x, v = .ref T ∧ H T = none ∧ H' = upd H T (.tup [.int (i : Nat), x]) ∧ (∀ xs, SqT K H a xs → xs[i]? = some x), fun i H => ∃ xs : List V, SqT K H a xs ∧ xs.length = i⟩
theorem turn_en {P : Program} {w : World} {K : PySem.W.Frag} {elts : List Expr} {kk : Nat} {tpos : Pos} {a e it : Addr} (n1 : e ≠ it) (n2 : e ≠ a) (n3 : a ≠ it) :
    Turn P w K (.Tuple elts kk tpos) (ItE K a) [e, it] e (fun i h => (∃ old, IsEnum h e it ((i : Nat) : Int) old) ∧ h.IsTupleIter it a i) where
  mem := by simp
  obj := fun i h st b hb => by
    obtain ⟨⟨old, he⟩, ⟨o, ho, hc, hd⟩⟩ := st
    rcases (show b = e ∨ b = it by simpa using hb) with rfl | rfl
    · exact ⟨_, he, fun v q => nomatch q⟩
    · exact ⟨o, ho, fun v q => by rw [hd] at q; cases q⟩
  keep := fun i h h' st k => by
    obtain ⟨⟨old, he⟩, hi⟩ := st
    exact ⟨⟨old, k e (by simp) _ he⟩, hi.at fun o q => k it (by simp) o q⟩
  item := by
    intro X hP hw hK hc i pins s σ H E I hf st hg
    subst hP hw hK
    obtain ⟨⟨old, he⟩, hi⟩ := st
    obtain ⟨xs, x, hq, hx⟩ := hg
    obtain ⟨its, rv, p, hz⟩ := I.tuple hq
    obtain ⟨u, hu, ru⟩ := rv.get hx
    have le : e < s.heap.objs.size := Heap.lt_size he
    have li : it < s.heap.objs.size := by obtain ⟨_, q, _⟩ := hi; exact Heap.lt_size q
    have hlt : i < its.toArray.size := by
      have := getElem?_lt hu
      simpa using this
    refine wpAny_pyNext_enum_itemC (Draws.tuple (A := X.A.in1) (show X.A.in1.handled = none from I.ok.hd hc) it a n3 its.toArray) he (i := i) ⟨hi, p⟩ hlt n1 (by simp [n1, n2]) fun y hp tk hy ho hs hT hsz hk => ?_
    have ey : y = u := by
      have h1 : its[i]? = some y := by simpa using hy
      rw [hu] at h1
      exact (Option.some.inj h1).symm
    subst ey
    refine ⟨_, rfl, wpAny_letOwnedTupleGo_enum (s := { s with heap := hp, toks := tk + 1 }) ho fun hp' he' sb => ?_⟩
    have hT2 : hp'.get? s.heap.objs.size = some { cls := .type "tuple", data := .seq #[.int i tk, y] } := (sb.2 _ (Nat.ne_of_gt le)).trans hT
    have new : ObjOk X.prog X.w (upd H s.heap.objs.size (.tup [.int (i : Nat), x])) hp' s.heap.objs.size (.tup [.int (i : Nat), x]) := by
      refine ⟨?_, [.int i tk, y], .cons ⟨_, rfl⟩ (.cons ru .nil), ⟨_, hT2, rfl, _, rfl⟩⟩
      show 2 ≤ sizeLine
      decide
    have J := I.turnedNew (t' := tk + 1) (ch := [e, it]) (h' := hp') (fun b ob hb q => by
      have n := (show b ≠ e ∧ b ≠ it by simpa using hb)
      exact (sb.2 b n.1).trans (hk b ob n.1 n.2 q)) hf (Nat.le_refl _) new
    refine ⟨.ref s.heap.objs.size, _, J, rfl, ⟨_, x, rfl, I.hok.fresh (Nat.le_refl _), rfl, fun ys hy => by rw [I.tuple_inj hy hq]; exact hx⟩, ⟨⟨y, ?_⟩, hs.1.at fun o q => (sb.2 it n1.symm).trans q⟩, fun b hb => ?_⟩
    · rw [show ((i + 1 : Nat) : Int) = (i : Int) + 1 by omega]; exact he'
    · have lb : b < s.heap.objs.size := by rcases (show b = e ∨ b = it by simpa using hb) with rfl | rfl <;> assumption
      rw [upd_ne (Nat.ne_of_lt lb)]
      exact (hf b hb).1
  done := by
    intro X hP hw hK hc i pins s σ H E I hf st hg
    subst hP hw hK
    obtain ⟨⟨old, he⟩, hi⟩ := st
    obtain ⟨xs, hq, hx⟩ := hg
    obtain ⟨its, rv, p, hz⟩ := I.tuple hq
    obtain ⟨f0, f1, f2, f3, f4, f5⟩ := hf it (by simp)
    have hl : its.toArray.size = i := by
      have := rv.length
      simp
      omega
    refine wpAny_pyNext_enum_endD (Draws.tuple (A := X.A.in1) (show X.A.in1.handled = none from I.ok.hd hc) it a n3 its.toArray) he ⟨by rw [hl]; exact hi, p⟩ fun hp eb => ⟨rfl, I.turned (t' := s.toks) (fun b o hb q => eb b o hb q) f0 f1 f3 f4 f5⟩
  self := fun A i s Q E st h => let ⟨⟨_, he⟩, _⟩ := st; wpAny_pyIter_enum he h
def iEnT (K : PySem.W.Frag) (ta : TA) : TI := fun σ H R => ta σ H fun vs H1 => ∃ a xs, vs = [.ref a] ∧ SqT K H1 a xs ∧ R (ItE K a) H1
theorem pi_enT {X : Cx} {x : Expr} {ta : TA} {p pos tpos : Pos} {elts : List Expr} {kk : Nat} (hg : Gl X "enumerate") (hm : X.mg "enumerate" = none) (ha : PA X [x] ta) (hs : starEach [x] X.env = [(false, eval x X.env)] := by rfl) :
    PI X (.Tuple elts kk tpos) (.Call (.Name "enumerate" p) [x] [] pos) (iEnT X.K ta) := ⟨fun pins s σ H R I h => by
  refine Call_ (ld_blt I hg hm boot_enumerate (PyProof.Rows.callWith_type1 (thn (ha.run pos pins s σ H _ I h) fun us s1 ⟨vs, H1, I1, r1, a, xs, ex, hq, q⟩ => ?_) hs rfl))
  subst ex
  cases r1 with
  | cons r rr =>
    cases rr
    cases r
    obtain ⟨its, rv, p', hz⟩ := I1.tuple hq
    have la : a < s1.heap.objs.size := by obtain ⟨_, z, _⟩ := p'; exact Heap.lt_size z
    refine en_call (begins_tuple a its.toArray) p' fun hp he hi hsz hk => wpAny_pyIter_enum he ?_
    have I2 : Inv X pins σ H1 { s1 with heap := hp } := I1.kept (t' := s1.toks) hk
    refine ⟨s1.heap.objs.size + 1, [s1.heap.objs.size + 1, s1.heap.objs.size], _, _, H1, rfl, I2, turn_en (a := a) (Nat.succ_ne_self _) (Nat.ne_of_gt (Nat.lt_succ_of_lt la)) (Nat.ne_of_lt la), ⟨⟨.none, he⟩, ⟨_, hi, rfl, rfl⟩⟩, fun b hb => ?_, q⟩
    have hle : s1.heap.objs.size ≤ b := by rcases (show b = s1.heap.objs.size + 1 ∨ b = s1.heap.objs.size by simpa using hb) with rfl | rfl <;> omega
    exact I1.fpOk hle (I1.hok.fresh hle)⟩
end UY
namespace UY
open PySem PySem.Spec PyProof.Rows L2
def AddI (w : World) (D : Addr) (y : V) (H : Hp) (Nx : Hp → Prop) : Prop := ∃ (k : Int) (S : Int → Bool) (n : Nat), y = .int k ∧ H D = some (SetO w D S n) ∧ n + 1 < scanBound ∧ Nx (upd H D (SetO w D (fun j => S j || decide (j = k)) (if S k = true then n else n + 1)))
section
variable {X : Cx}
end
end UY
namespace UX
open PySem PySem.Spec PyProof.Rows L2 UY
open EL (Ex RB BOk Bn TK)
def ddI (ns : List Int) : List Int := ns.foldl (fun acc k => if k ∈ acc then acc else acc ++ [k]) []
theorem ddI_snoc (ns : List Int) (k : Int) : ddI (ns ++ [k]) = if k ∈ ddI ns then ddI ns else ddI ns ++ [k] := by unfold ddI; rw [List.foldl_append]; rfl
theorem snoc_ind {α : Type} {P : List α → Prop} (h0 : P []) (h1 : ∀ l x, P l → P (l ++ [x])) : ∀ l, P l := fun l => by
  have : ∀ n (l : List α), l.length = n → P l := by
    intro n
    induction n with
    | zero => intro l e; rw [List.length_eq_zero_iff.mp e]; exact h0
    | succ n ih =>
      intro l e
      have hne : l ≠ [] := fun z => by rw [z] at e; cases e
      rw [← List.dropLast_concat_getLast hne]
      exact h1 _ _ (ih _ (by rw [List.length_dropLast, e]; rfl))
  exact this l.length l rfl
theorem mem_ddI {x : Int} : ∀ ns : List Int, x ∈ ddI ns ↔ x ∈ ns := by
  refine snoc_ind (by simp [ddI]) fun l k ih => ?_
  rw [ddI_snoc]
  split
  · rename_i h
    rw [ih, List.mem_append, List.mem_singleton]
    exact ⟨.inl, fun z => z.elim id fun e => e ▸ ih.mp (e ▸ h)⟩
  · rw [List.mem_append, List.mem_append, ih]
section
variable {F : Fr} {os : Os} {as as' : SA} {st st' : Sto} {γ : List (U × V)} {H H' : Hp} {σ : L2.St} {δ : Dl}
structure SS (w : World) (F : Fr) (os : Os) (k0 : Nat) (D : Addr) (as : SA) (st : Sto) (γ : List (U × V)) (H : Hp) (σ : L2.St) (δ : Dl) (ns : List Int) : Prop where
  S : SDo F ((k0, [D]) :: os) as st γ H σ δ
  a : H D = some (SetO w D (fun j => decide (j ∈ ns)) (ddI ns).length)
variable {k0 : Nat} {D : Addr} {ns : List Int} {w : World}
theorem SS.go (l : SS w F os k0 D as st γ H σ δ ns) {σ' : L2.St} {δ' : Dl} (g : Go as as' H H') (S : SDo F ((k0, [D]) :: os) as' st' γ H' σ' δ') : SS w F os k0 D as' st' γ H' σ' δ' ns :=
  ⟨S, g.rb.keep _ _ (fun m => (List.nodup_append.mp l.S.nd).2.2 D (List.mem_append_left _ List.mem_cons_self) D m rfl) l.a⟩
theorem SS.push (l : SS w F os k0 D as st γ H σ δ ns) (hk : δ.length ≤ k0) (k : Int) (hz : (ddI ns).length + 1 < scanBound) {Nx : Hp → Prop} (hN : ∀ H', SS w F os k0 D as st γ H' σ δ (ns ++ [k]) → (∀ b, b ≠ D → H' b = H b) → H' D ≠ none → Nx H') : AddI w D (.int k) H Nx := by
  refine ⟨k, _, _, rfl, l.a, hz, ?_⟩
  have e1 : (fun j => decide (j ∈ ns) || decide (j = k)) = fun j => decide (j ∈ ns ++ [k]) := by
    funext j
    rw [Bool.eq_iff_iff]
    simp
  have e2 : (if decide (k ∈ ns) = true then (ddI ns).length else (ddI ns).length + 1) = (ddI (ns ++ [k])).length := by
    rw [ddI_snoc]
    by_cases h : k ∈ ns
    · rw [decide_eq_true h, if_pos rfl, if_pos ((mem_ddI ns).mpr h)]
    · rw [decide_eq_false h, if_neg (by simp), if_neg (fun z => h ((mem_ddI ns).mp z)), List.length_append]; rfl
  rw [e1, e2]
  have c : Chg F ((k0, [D]) :: os) as H (upd H D (SetO w D (fun j => decide (j ∈ ns ++ [k])) (ddI (ns ++ [k])).length)) k0 [D] [D] D := chg_same List.mem_cons_self List.mem_cons_self l.S l.a (fun _ z => nomatch z) (fun _ _ z => nomatch z)
  have S := l.S.mut c (x := none) (fun _ z => nomatch z)
  rw [setOs_same l.S.ix List.mem_cons_self] at S
  rw [List.set_eq_of_length_le hk] at S
  exact hN _ ⟨S, upd_same⟩ (fun b n => upd_ne n) (by rw [upd_same]; exact fun z => nomatch z)
end
section
variable {F : Fr} {δ : Dl} {wi wi1 : TI} {g g1 : TG} {tt tt1 : TT} {te : TE} {vs vs1 : List Nat} {wl : M (List U)} {w : World}
end
end UX
namespace UY
open PySem PySem.Spec PyProof.Rows L2 UX
section
variable {P : Program} {w : World} {A : Around} {E : Value → Shared → Prop} {s : Shared}
end
end UY
namespace UX
open PySem PySem.Spec PyProof.Rows L2 UY
open EL (Ex RB BOk Bn TK)
section
variable {F : Fr} {δ : Dl} {w : World}
def tupRW (w : M (List U)) : M U := .bind w fun us => .o (if us.length ≤ sizeLine then some (.tup us) else none)
def lstRW (w : M (List U)) : M U := .bind w fun us => .o (if us.length ≤ sizeLine then some (.lst us) else none)
def enumL (us : List U) : List U := (List.range us.length).zipWith (fun i u => U.tup [.int (i : Nat), u]) us
def enumU : U → Option (List U)
  | .tup us => some (enumL us)
  | .lst us => some (enumL us)
  | _ => none
def enumW (w : M U) : M (List U) := .bind w fun u => .o (enumU u)
def iEnA (K : PySem.W.Frag) (ta : TA) : TI := fun σ H R => iEnum K ta σ H R ∨ iEnT K ta σ H R
end
theorem pi_or {X : Cx} {tg e : Expr} {w w' : TI} (h : PI X tg e w) (h' : PI X tg e w') : PI X tg e (fun σ H R => w σ H R ∨ w' σ H R) := ⟨fun pins s σ H R I z => z.elim (fun z => h.run pins s σ H R I z) fun z => h'.run pins s σ H R I z⟩
theorem pi_enAK {X : Cx} (K : PySem.W.Frag) {e : Expr} {ta : TA} {p pos tpos : Pos} {elts : List Expr} {kk : Nat} (hg : Gl X "enumerate") (hm : X.mg "enumerate" = none) (ha : PA X [e] ta) (hs : starEach [e] X.env = [(false, eval e X.env)] := by rfl) (hK : X.K = K := by rfl) :
    PI X (.Tuple elts kk tpos) (.Call (.Name "enumerate" p) [e] [] pos) (iEnA K ta) := hK ▸ pi_or (pi_enum hg hm ha hs) (pi_enT hg hm ha hs)
theorem enumL_len (us : List U) : (enumL us).length = us.length := by unfold enumL; rw [List.length_zipWith, List.length_range, Nat.min_self]
theorem enumL_get {us : List U} {i : Nat} {u : U} (h : (enumL us)[i]? = some u) : ∃ x, us[i]? = some x ∧ u = .tup [.int (i : Nat), x] := by
  have hi : i < us.length := by have := getElem?_lt h; rwa [enumL_len] at this
  unfold enumL at h
  rw [List.getElem?_zipWith, List.getElem?_range hi, List.getElem?_eq_getElem hi] at h
  cases h
  exact ⟨_, List.getElem?_eq_getElem hi, rfl⟩
section
variable {F : Fr} {δ : Dl} {ta : TE} {wa : M U}
theorem src_enum (ha : EvW F ta δ wa) : Src F (iEnA F.G.K (tCons ta tNil)) δ (enumW wa) := fun os as st γ σ H us st' S q Q k => by
  obtain ⟨u, st1, qu, q⟩ := M.bind_inv q
  obtain ⟨e, rfl⟩ := M.o_inv q
  cases u <;> simp [enumU] at e
  · subst e
    refine .inr (ha os as st γ σ H _ _ S qu _ fun v H1 as1 g1 S1 p1 => ?_)
    have S1' := S1.ghost (g := [(_, v)]) fun z m => by rw [List.mem_singleton] at m; rw [m]; exact p1
    obtain ⟨a, vs, rfl, hs, hv⟩ := id p1
    refine ⟨a, vs, rfl, EL.sqT_of hs, k _ H1 as1 _ g1 S1' ⟨fun i os as st γ σ δ H hi S2 => ?_, fun os as st γ σ δ H S2 => ?_, fun i os as st γ σ δ x H H' z e S2 y => ?_⟩⟩ <;> obtain ⟨a2, vs2, ev2, ht, hv2⟩ := S2.gh _ List.mem_cons_self <;> cases ev2
    · rw [enumL_len] at hi
      have h1 : i < vs2.length := by rw [imAll_len hv2]; omega
      exact ⟨vs2, vs2[i], EL.sqT_of ht, List.getElem?_eq_getElem h1⟩
    · exact ⟨vs2, EL.sqT_of ht, by rw [enumL_len, imAll_len hv2]⟩
    · obtain ⟨T, x1, rfl, hT, rfl, f1⟩ := y
      obtain ⟨c, e1, rfl⟩ := enumL_get e
      obtain ⟨y1, e3, p3⟩ := imAll_get hv2 e1
      rw [f1 _ (EL.sqT_of ht)] at e3
      cases e3
      exact ⟨Ex.new hT, zip_pair hT rfl p3⟩
  · subst e
    refine .inl (ha os as st γ σ H _ _ S qu _ fun v H1 as1 g1 S1 p1 => ?_)
    have S1' := S1.ghost (g := [(_, v)]) fun z m => by rw [List.mem_singleton] at m; rw [m]; exact p1
    obtain ⟨a, vs, rfl, nb, hs, hv⟩ := id p1
    refine ⟨a, vs, rfl, EL.sqL_of hs, k _ H1 as1 _ g1 S1' ⟨fun i os as st γ σ δ H hi S2 => ?_, fun os as st γ σ δ H S2 => ?_, fun i os as st γ σ δ x H H' z e S2 y => ?_⟩⟩ <;> obtain ⟨a2, vs2, ev2, n2, ht, hv2⟩ := S2.gh _ List.mem_cons_self <;> cases ev2
    · rw [enumL_len] at hi
      have h1 : i < vs2.length := by rw [imAll_len hv2]; omega
      exact ⟨vs2, vs2[i], EL.sqL_of ht, List.getElem?_eq_getElem h1⟩
    · exact ⟨vs2, EL.sqL_of ht, by rw [enumL_len, imAll_len hv2]; exact Nat.le_refl _⟩
    · obtain ⟨T, x1, rfl, hT, rfl, f1⟩ := y
      obtain ⟨c, e1, rfl⟩ := enumL_get e
      obtain ⟨y1, e3, p3⟩ := imAll_get hv2 e1
      rw [f1 _ (EL.sqL_of ht)] at e3
      cases e3
      exact ⟨Ex.new hT, zip_pair hT rfl p3⟩
end
def putU (d k v : U) : Option U := match d with
  | .dct ks us => if ks.length < sizeLine then match keyU k with
    | some k => match idxK k ks with
      | some j => if ks.Nodup then some (.dct ks (us.set j v)) else none
      | none => some (.dct (ks ++ [k]) (us ++ [v]))
    | none => none else none
  | .dcT ks us => if ks.length < sizeLine then match tkeyU k with
    | some k => match idxK k ks with
      | some j => if ks.Nodup then some (.dcT ks (us.set j v)) else none
      | none => some (.dcT (ks ++ [k]) (us ++ [v]))
    | none => none else none
  | _ => none
section
variable {κ : Type} [DecidableEq κ]
theorem idx_any {k : κ} : ∀ {ks : List κ} {vs : List V} {j : Nat}, ks.length = vs.length → idxK k ks = some j → ((ks.zip vs).any fun kv => decide (kv.1 = k)) = true
  | [], _, _, _, e => by cases e
  | x :: ks, [], _, l, _ => by cases l
  | x :: ks, v :: vs, j, l, e => by
    unfold idxK at e
    by_cases z : x = k
    · simp [z]
    · rw [if_neg z] at e
      obtain ⟨j', e', rfl⟩ := Option.map_eq_some_iff.mp e
      rw [List.zip_cons_cons, List.any_cons, idx_any (by simpa using l) e', Bool.or_true]
theorem putK_at {k : κ} {y : V} {ks : List κ} {vs : List V} {j : Nat} (l : ks.length = vs.length) (nd : ks.Nodup) (e : idxK k ks = some j) : putK (ks.zip vs) k y = ks.zip (vs.set j y) := by
  unfold putK
  rw [if_pos (idx_any l e)]
  exact putK_set l nd e
end
section
variable {F : Fr} {S L : Type} {δ : Dl} {δn : S → Dl} {δl : L → Dl} {t2 : TS} {i : Nat}
theorem im_tkey {G : Cxt} {rs : List Addr} {B : Bn} {H : Hp} {u : U} {v : V} {k : List Key} (e : tkeyU u = some k) (h : im G rs B u v H) : ∃ b, v = .ref b ∧ H b = some (.tup (k.map kV)) := by
  cases u <;> simp [tkeyU] at e
  obtain ⟨b, vs, rfl, hb, hv⟩ := h
  rw [im_keys e hv] at hb
  exact ⟨b, rfl, hb⟩
theorem put_zip {κ : Type} [DecidableEq κ] {ks ks' : List κ} {us us' : List U} {key : κ} {x : U} {vs : List V} {v : V} {G : Cxt} {rs : List Addr} {B : Bn} {H : Hp} (l : ks.length = us.length) (hv : imAll G rs B us vs H) (hx : im G rs B x v H)
    (e : (match idxK key ks with | some j => if ks.Nodup then some (ks, us.set j x) else none | none => some (ks ++ [key], us ++ [x])) = some (ks', us')) : ∃ vs', putK (ks.zip vs) key v = ks'.zip vs' ∧ ks'.length = us'.length ∧ imAll G rs B us' vs' H := by
  have ll : ks.length = vs.length := by rw [l, imAll_len hv]
  cases ei : idxK key ks with
  | some j =>
    rw [ei] at e
    simp only at e
    split at e
    · rename_i nd
      cases e
      exact ⟨vs.set j v, putK_at ll nd ei, by rw [List.length_set, l], imAll_set hv hx⟩
    · cases e
  | none =>
    rw [ei] at e
    cases e
    exact ⟨vs ++ [v], putK_zip ll ei, by simp [l], imAll_snoc hv hx⟩
theorem SDo.redo {os : Os} {as : SA} {st : Sto} {γ : List (U × V)} {σ : L2.St} {H : Hp} {d' : U} {a : Addr} {o o' : HO} (Q : SDo F os as st γ H σ δ) (m : (i, [a]) ∈ os) (e0 : σ[i]? = some (some (.ref a))) (e3 : H a = some o) (nt : ∀ xs, o ≠ .tup xs) (nf : ∀ y u, o ≠ .frz y u)
    (hn : (∀ {us : List U} {vs : List V}, imAll F.G (rts as) (ban F os as) us vs H → imAll F.G (rts as) (ban F os as) us vs (upd H a o')) → ownD F.G (rts as) (ban F os as) (.dct .leaf) d' (.ref a) (upd H a o') [a]) : SDo F os as st γ (upd H a o') σ (δ.set i (some (.own (.dct .leaf) d'))) := by
  have so := setOs_same Q.ix m
  have c : Chg F os as H (upd H a o') i [a] [a] a := chg_same m List.mem_cons_self Q e3 nt nf
  have := Q.mut c (x := some (.own (.dct .leaf) d')) fun s es => by
    cases es
    refine ⟨_, _, .ref a, rfl, e0, ?_⟩
    rw [so]
    exact hn fun h => by have := c.imAll h; rw [so] at this; exact this
  rw [so] at this
  exact this
theorem SDo.put {os : Os} {as : SA} {st : Sto} {γ : List (U × V)} {σ : L2.St} {H : Hp} {d k x d' : U} {y v : V} (Q : SDo F os as st γ H σ δ) (hd : δ[i]? = some (some (.own (.dct .leaf) d))) (e : putU d k x = some d') (pk : im F.G (rts as) (ban F os as) k y H) (px : im F.G (rts as) (ban F os as) x v H) :
    ∃ a H', σ[i]? = some (some (.ref a)) ∧ DPut H a y v H' ∧ SDo F os as st γ H' σ (δ.set i (some (.own (.dct .leaf) d'))) := by
  obtain ⟨v0, e0, A, m, o⟩ := Q.get hd
  cases d with
  | dct ks us =>
    obtain ⟨a, vs, e1, e2, e3, l, hv⟩ := own_dct.mp o
    subst e1 e2
    simp only [putU] at e
    split at e
    · rename_i hl
      cases ek : keyU k with
      | none => rw [ek] at e; cases e
      | some key =>
        rw [ek] at e
        simp only at e
        have ey := im_key ek pk
        subst ey
        have hz : (ks.zip vs).length < sizeLine := by rw [List.length_zip]; omega
        obtain ⟨ks', us', e5, rfl⟩ : ∃ ks' us', (match idxK key ks with | some j => if ks.Nodup then some (ks, us.set j x) else none | none => some (ks ++ [key], us ++ [x])) = some (ks', us') ∧ d' = .dct ks' us' := by
          cases ei : idxK key ks with
          | some j =>
            rw [ei] at e
            simp only at e ⊢
            split at e
            · rename_i nd
              cases e
              exact ⟨_, _, if_pos nd, rfl⟩
            · cases e
          | none => rw [ei] at e; cases e; exact ⟨_, _, rfl, rfl⟩
        obtain ⟨vs', p1, p2, p3⟩ := put_zip l hv px e5
        refine ⟨a, _, e0, DPut.k e3 hz, ?_⟩
        rw [p1]
        exact Q.redo m e0 e3 (fun _ z => nomatch z) (fun _ _ z => nomatch z) fun t => own_dct.mpr ⟨a, vs', rfl, rfl, upd_same, p2, t p3⟩
    · cases e
  | dcT ks us =>
    obtain ⟨a, vs, e1, e2, e3, l, hv⟩ := own_dcT.mp o
    subst e1 e2
    simp only [putU] at e
    split at e
    · rename_i hl
      cases ek : tkeyU k with
      | none => rw [ek] at e; cases e
      | some key =>
        rw [ek] at e
        simp only at e
        obtain ⟨b, ey, hb⟩ := im_tkey ek pk
        subst ey
        have hz : (ks.zip vs).length < sizeLine := by rw [List.length_zip]; omega
        obtain ⟨ks', us', e5, rfl⟩ : ∃ ks' us', (match idxK key ks with | some j => if ks.Nodup then some (ks, us.set j x) else none | none => some (ks ++ [key], us ++ [x])) = some (ks', us') ∧ d' = .dcT ks' us' := by
          cases ei : idxK key ks with
          | some j =>
            rw [ei] at e
            simp only at e ⊢
            split at e
            · rename_i nd
              cases e
              exact ⟨_, _, if_pos nd, rfl⟩
            · cases e
          | none => rw [ei] at e; cases e; exact ⟨_, _, rfl, rfl⟩
        obtain ⟨vs', p1, p2, p3⟩ := put_zip l hv px e5
        refine ⟨a, _, e0, DPut.t e3 hb hz, ?_⟩
        rw [p1]
        exact Q.redo m e0 e3 (fun _ z => nomatch z) (fun _ _ z => nomatch z) fun t => own_dcT.mpr ⟨a, vs', rfl, rfl, upd_same, p2, t p3⟩
    · cases e
  | _ => cases e
end
section
variable {F : Fr} {S L : Type} {δ : Dl} {i : Nat} {Sh0 : Sh} {te td tx : TE}
def xitemM (wd : M U) (wx : M (U × U)) : M (U × U) := .bind wd fun d => .bind wx fun p => .o ((itemU d p.1).map fun u => (u, p.2))
def itX (w : M (U × U)) : M (List U × U) := .bind w fun p => .o ((itU p.1).map fun us => (us, p.2))
end
section
variable {F : Fr} {S L : Type} {δ : Dl} {i : Nat} {Sh0 : Sh} {wi : TI} {g : TG} {tb : TS} {wl : M (List U × U)} {δ2 : L → Dl}
end
section
variable {B : Bn} {H : Hp} {d : Addr} {u0 : HO} {od : Obj}
end
section
variable {F : Fr} {os : Os} {as as' : SA} {st st' : Sto} {γ : List (U × V)} {H H' : Hp} {σ : L2.St} {δ : Dl} {d : Addr} {u0 : HO} {od : Obj}
end
def kU : Key → U
  | .inl i => .int i
  | .inr x => .str x
def keysL : U → Option (List U)
  | .dct ks _ => some (ks.map kU)
  | .dcT ks _ => some (ks.map fun k => .tup (k.map kU))
  | _ => none
def keysW (w : M U) : M (List U) := .bind w fun u => .o (keysL u)
section
variable {F : Fr} {δ : Dl} {wi : TI} {g : TG} {tt : TT} {te : TE} {vs : List Nat} {wl : M (List U)}
end
section
variable {F : Fr} {S L : Type} {δ : Dl} {δn : S → Dl} {δl : L → Dl} {t2 : TS} {i : Nat} {X : TE} {w : M U}
end
section
variable {F : Fr} {os os' : Os} {as as' : SA} {st st' : Sto} {γ : List (U × V)} {H H' : Hp} {σ : L2.St} {δ : Dl} {i k : Nat} {A : List Addr}
def Pend (F : Fr) (os : Os) (as : SA) (H : Hp) (s : Sh) (u : U) (v : V) (k : Nat) (A : List Addr) : Prop := (k, A) ∈ os ∧ ownD F.G (rts as) (ban F os as) s u v H A
theorem Pend.go {s : Sh} {u : U} {v : V} (p : Pend F os as H s u v k A) (S : SDo F os as st γ H σ δ) (g : Go as as' H H') : Pend F os as' H' s u v k A :=
  ⟨p.1, own_go g p.2 (fun a z q => (List.nodup_append.mp S.nd).2.2 a (mem_flo p.1 z) a q rfl) fun a z => S.ok a (.inr (.inl (mem_flo p.1 z)))⟩
end
section
variable {F : Fr} {S L : Type} {δ : Dl} {tz : TS} {δn : S → Dl} {δl : L → Dl}
theorem blk_tup_WWW {i0 i1 i2 : Nat} {t0 t1 t2 : TE} {w0 w1 w2 : M U} {k : U → U → U → M (Out S L)} (h0 : EvW F t0 δ w0) (h1 : EvW F t1 δ w1) (h2 : EvW F t2 δ w2) (h : ∀ a0 a1 a2, Blk F tz (((δ.set i0 (some (.im a0))).set i1 (some (.im a1))).set i2 (some (.im a2))) (k a0 a1 a2) δn δl) : Blk F (tSeq (tAsg (tTup (tCons t0 (tCons t1 (tCons t2 tNil)))) (gTup F.G.K 3 (gCons (gName i0) (gCons (gName i1) (gCons (gName i2) gNil))))) tz) δ (.bind w0 fun a0 => .bind w1 fun a1 => .bind w2 fun a2 => k a0 a1 a2) δn δl := fun D os as st γ σ H o st' Q q P => by
  obtain ⟨a0, st1, q0, r0⟩ := M.bind_inv q
  obtain ⟨a1, st2, q1, r1⟩ := M.bind_inv r0
  obtain ⟨a2, st3, q2, r2⟩ := M.bind_inv r1
  clear q r0 r1
  refine h0 os as st γ σ H a0 _ Q q0 _ fun v0 H1 as1 g1 S1 p0 => ?_
  have T1 : SDo F os as1 st1 ([(a0, v0)] ++ γ) H1 σ δ := S1.ghost fun z m => by rw [List.mem_singleton] at m; rw [m]; exact p0
  refine h1 os as1 st1 ([(a0, v0)] ++ γ) σ H1 a1 _ T1 q1 _ fun v1 H2 as2 g2 S2 p1 => ?_
  have T2 : SDo F os as2 st2 ([(a1, v1)] ++ ([(a0, v0)] ++ γ)) H2 σ δ := S2.ghost fun z m => by rw [List.mem_singleton] at m; rw [m]; exact p1
  refine h2 os as2 st2 ([(a1, v1)] ++ ([(a0, v0)] ++ γ)) σ H2 a2 _ T2 q2 _ fun v2 H3 as3 g3 S3 p2 => ?_
  have T3 : SDo F os as3 st3 ([(a2, v2)] ++ ([(a1, v1)] ++ ([(a0, v0)] ++ γ))) H3 σ δ := S3.ghost fun z m => by rw [List.mem_singleton] at m; rw [m]; exact p2
  have E0 := T3.set (i := i0) (x := .im a0) (T3.gh (a0, v0) (List.mem_cons_of_mem _ (List.mem_cons_of_mem _ List.mem_cons_self)))
  have E1 := E0.set (i := i1) (x := .im a1) (E0.gh (a1, v1) (List.mem_cons_of_mem _ List.mem_cons_self))
  have E2 := E1.set (i := i2) (x := .im a2) (E1.gh (a2, v2) List.mem_cons_self)
  have Z := (SDo.unghost (g := [(a0, v0)]) (SDo.unghost (g := [(a1, v1)]) (SDo.unghost (g := [(a2, v2)]) E2)))
  exact ⟨(by decide : 3 ≤ sizeLine), fun p hp => ⟨p, [v0, v1, v2], rfl, EL.sqT_of upd_same, rfl, v0, [v1, v2], rfl, v1, [v2], rfl, v2, [], rfl, rfl, h a0 a1 a2 D _ as3 st3 γ _ _ o st' (Z.ex (Ex.new hp)) r2 P⟩⟩
end
section
variable {F : Fr}
end
end UX
namespace UX
open PySem PySem.Spec PyProof.Rows L2 UY
open EL (Ex RB BOk Bn TK rOr op_or)
def M.bind2 {β : Type} (w : M (U × U)) (k : U → U → M β) : M β := .bind w fun p => k p.1 p.2
section
variable {F : Fr} {S L : Type} {δ : Dl} {i j : Nat} {Sh0 : Sh} {te : TE} {t2 : TS} {δn : S → Dl} {δl : L → Dl}
end
def M.bindS {β : Type} (w : M (U × U)) (k : U → M β) : M β := .bind w fun p => k p.2
section
variable {F : Fr} {S L : Type} {δ : Dl} {i j : Nat} {Sh0 : Sh} {te : TE} {t2 : TS} {δn : S → Dl} {δl : L → Dl}
end
def fV : U → Option V
  | .int i => some (.int i)
  | .str x => some (.str x)
  | .bl b => some (.bl b)
  | .non => some .non
  | _ => none
def fVs : List U → Option (List V)
  | [] => some []
  | u :: us => match fV u, fVs us with
    | some v, some vs => some (v :: vs)
    | _, _ => none
def seqOf : U → Option (List U)
  | .tup us => some us
  | .lst us => some us
  | _ => none
def inB (a b : U) : Option Bool := match fV a, seqOf b with
  | some v, some us => (fVs us).map fun vs => inV v vs
  | _, _ => match pd a, pd b with
    | some d, some (.list ds) => if SeqAt.shaped d = true ∧ SeqAt.shaped (.list ds) = true then some (ds.any fun z => PyData.eqv z d) else none
    | some d, some (.tuple ds) => if SeqAt.shaped d = true ∧ SeqAt.shaped (.tuple ds) = true then some (ds.any fun z => PyData.eqv z d) else none
    | _, _ => none
def inSU (a b : U) : Option U := (inB a b).map .bl
def notInSU (a b : U) : Option U := (inB a b).map fun t => .bl (!t)
theorem im_fV {G : Cxt} {rs : List Addr} {B : Bn} {H : Hp} {u : U} {v w : V} (e : fV u = some v) (h : im G rs B u w H) : w = v ∧ flatV v = true := by
  cases u <;> simp [fV] at e <;> subst e <;> exact ⟨h, rfl⟩
theorem im_fVs {G : Cxt} {rs : List Addr} {B : Bn} {H : Hp} : ∀ {us : List U} {vs ws : List V}, fVs us = some vs → imAll G rs B us ws H → ws = vs ∧ vs.all flatV = true
  | [], _, _, e, h => by cases e; exact ⟨h, rfl⟩
  | u :: us, vs, _, e, ⟨w, r, ew, h1, h2⟩ => by
    unfold fVs at e
    cases e1 : fV u with
    | none => rw [e1] at e; cases e
    | some v =>
      cases e2 : fVs us with
      | none => rw [e1, e2] at e; cases e
      | some vs' =>
        rw [e1, e2] at e
        cases e
        obtain ⟨h3, h4⟩ := im_fV e1 h1
        obtain ⟨h5, h6⟩ := im_fVs e2 h2
        subst ew h3 h5
        exact ⟨rfl, by rw [List.all_cons, h4, h6]; rfl⟩
def rInDT (K : PySem.W.Frag) : R2 := fun x y H Q => ∃ d ds, Dp K H x d ∧ Dp K H y (.tuple ds) ∧ SeqAt.shaped d = true ∧ SeqAt.shaped (.tuple ds) = true ∧ Q (.bl (ds.any fun z => PyData.eqv z d)) H
def rNotInDT (K : PySem.W.Frag) : R2 := fun x y H Q => ∃ d ds, Dp K H x d ∧ Dp K H y (.tuple ds) ∧ SeqAt.shaped d = true ∧ SeqAt.shaped (.tuple ds) = true ∧ Q (.bl (!ds.any fun z => PyData.eqv z d)) H
theorem op_inDT {X : Cx} (K : PySem.W.Frag) (hu : X.A.units + 66 < cLine) (h : X.K = K := by rfl) : OpR X (compareOp .In) (rInDT K) := by
  subst h
  intro pins s σ H x y v u Q I rx ry h
  obtain ⟨d, ds, hd, he, sd, se, q⟩ := h
  obtain ⟨as, r1⟩ := Dp.reads I d x v hd rx
  obtain ⟨bs, r2⟩ := Dp.reads I (.tuple ds) y u he ry
  exact SeqAt.in_tuple_reads r2 r1 (SeqAt.canLay_of_shaped se) (SeqAt.canLay_of_shaped sd) (room_in_shaped sd (by omega)) ⟨.bl _, H, I, rfl, q⟩
theorem op_notInDT {X : Cx} (K : PySem.W.Frag) (hu : X.A.units + 66 < cLine) (h : X.K = K := by rfl) : OpR X (compareOp .NotIn) (rNotInDT K) := by
  subst h
  intro pins s σ H x y v u Q I rx ry h
  obtain ⟨d, ds, hd, he, sd, se, q⟩ := h
  obtain ⟨as, r1⟩ := Dp.reads I d x v hd rx
  obtain ⟨bs, r2⟩ := Dp.reads I (.tuple ds) y u he ry
  exact SeqAt.notIn_tuple_reads r2 r1 (SeqAt.canLay_of_shaped se) (SeqAt.canLay_of_shaped sd) (room_in_shaped sd (by omega)) ⟨.bl _, H, I, rfl, q⟩
def rInA (K : PySem.W.Frag) : R2 := rOr (rIn K false) (rOr (rInD K) (rInDT K))
def rNotInA (K : PySem.W.Frag) : R2 := rOr (rIn K true) (rOr (rNotInD K) (rNotInDT K))
theorem op_inAK {X : Cx} (K : PySem.W.Frag) (hu : X.A.units + 66 < cLine) (h : X.K = K := by rfl) : OpR X (compareOp .In) (rInA K) := op_or (EL.op_inK K h) (op_or (EL.op_inDK K hu h) (op_inDT K hu h))
theorem op_notInAK {X : Cx} (K : PySem.W.Frag) (hu : X.A.units + 66 < cLine) (h : X.K = K := by rfl) : OpR X (compareOp .NotIn) (rNotInA K) := op_or (EL.op_notInK K h) (op_or (EL.op_notInDK K hu h) (op_notInDT K hu h))
section
variable {F : Fr}
theorem in_core {os : Os} {as : SA} {H : Hp} {a b : U} {x y : V} {t : Bool} (ha : rd F os as a x H) (hb : rd F os as b y H) (e : inB a b = some t) :
    (∃ p xs, y = .ref p ∧ (SqL F.G.K H p xs ∨ SqT F.G.K H p xs) ∧ flatV x = true ∧ xs.all flatV = true ∧ t = inV x xs) ∨ (∃ d ds, Dp F.G.K H x d ∧ Dp F.G.K H y (.list ds) ∧ SeqAt.shaped d = true ∧ SeqAt.shaped (.list ds) = true ∧ t = ds.any fun z => PyData.eqv z d) ∨ ∃ d ds, Dp F.G.K H x d ∧ Dp F.G.K H y (.tuple ds) ∧ SeqAt.shaped d = true ∧ SeqAt.shaped (.tuple ds) = true ∧ t = ds.any fun z => PyData.eqv z d := by
  have deep : (match pd a, pd b with
    | some d, some (.list ds) => if SeqAt.shaped d = true ∧ SeqAt.shaped (.list ds) = true then some (ds.any fun z => PyData.eqv z d) else none
    | some d, some (.tuple ds) => if SeqAt.shaped d = true ∧ SeqAt.shaped (.tuple ds) = true then some (ds.any fun z => PyData.eqv z d) else none
    | _, _ => none) = some t → (∃ d ds, Dp F.G.K H x d ∧ Dp F.G.K H y (.list ds) ∧ SeqAt.shaped d = true ∧ SeqAt.shaped (.list ds) = true ∧ t = ds.any fun z => PyData.eqv z d) ∨ ∃ d ds, Dp F.G.K H x d ∧ Dp F.G.K H y (.tuple ds) ∧ SeqAt.shaped d = true ∧ SeqAt.shaped (.tuple ds) = true ∧ t = ds.any fun z => PyData.eqv z d := fun e => by
    cases e1 : pd a with
    | none => rw [e1] at e; cases e
    | some d =>
      cases e2 : pd b with
      | none => rw [e1, e2] at e; cases e
      | some d2 =>
        rw [e1, e2] at e
        cases d2 with
        | list ds =>
          simp only at e
          split at e
          · rename_i h
            cases e
            exact .inl ⟨d, ds, rd_dp ha e1, rd_dp hb e2, h.1, h.2, rfl⟩
          · cases e
        | tuple ds =>
          simp only at e
          split at e
          · rename_i h
            cases e
            exact .inr ⟨d, ds, rd_dp ha e1, rd_dp hb e2, h.1, h.2, rfl⟩
          · cases e
        | _ => cases e
  unfold inB at e
  cases e1 : fV a with
  | none => rw [e1] at e; exact .inr (deep (by simpa using e))
  | some v =>
    cases e2 : seqOf b with
    | none => rw [e1, e2] at e; exact .inr (deep (by simpa using e))
    | some us =>
      rw [e1, e2] at e
      obtain ⟨vs, e3, rfl⟩ := Option.map_eq_some_iff.mp e
      obtain ⟨h1, h2⟩ := im_fV e1 (rd_im0 ha)
      subst h1
      left
      have hb0 := rd_im0 hb
      cases b <;> simp [seqOf] at e2
      · subst e2
        obtain ⟨p, ws, rfl, hp, hv⟩ := hb0
        obtain ⟨h3, h4⟩ := im_fVs e3 hv
        subst h3
        exact ⟨p, ws, rfl, .inr (EL.sqT_of hp), h2, h4, rfl⟩
      · subst e2
        obtain ⟨p, ws, rfl, _, hp, hv⟩ := hb0
        obtain ⟨h3, h4⟩ := im_fVs e3 hv
        subst h3
        exact ⟨p, ws, rfl, .inl (EL.sqL_of hp), h2, h4, rfl⟩
theorem ok_in : OpOk F (rInA F.G.K) inSU := fun os as H a b c x y ok ha hb e QQ k => by
  obtain ⟨t, et, rfl⟩ := Option.map_eq_some_iff.mp e
  rcases in_core ha hb et with ⟨p, xs, h1, h2, h3, h4, h5⟩ | ⟨d, ds, h1, h2, h3, h4, h5⟩ | ⟨d, ds, h1, h2, h3, h4, h5⟩
  · exact .inl ⟨p, xs, h1, h2, h3, h4, k _ H (Ex.refl _) (by rw [h5]; rfl)⟩
  · exact .inr (.inl ⟨d, ds, h1, h2, h3, h4, k _ H (Ex.refl _) (by rw [h5]; rfl)⟩)
  · exact .inr (.inr ⟨d, ds, h1, h2, h3, h4, k _ H (Ex.refl _) (by rw [h5]; rfl)⟩)
theorem ok_notIn : OpOk F (rNotInA F.G.K) notInSU := fun os as H a b c x y ok ha hb e QQ k => by
  obtain ⟨t, et, rfl⟩ := Option.map_eq_some_iff.mp e
  rcases in_core ha hb et with ⟨p, xs, h1, h2, h3, h4, h5⟩ | ⟨d, ds, h1, h2, h3, h4, h5⟩ | ⟨d, ds, h1, h2, h3, h4, h5⟩
  · exact .inl ⟨p, xs, h1, h2, h3, h4, k _ H (Ex.refl _) (by rw [h5]; rfl)⟩
  · exact .inr (.inl ⟨d, ds, h1, h2, h3, h4, k _ H (Ex.refl _) (by rw [h5]; rfl)⟩)
  · exact .inr (.inr ⟨d, ds, h1, h2, h3, h4, k _ H (Ex.refl _) (by rw [h5]; rfl)⟩)
end
end UX
namespace UY
open PySem PySem.Spec PyProof.Rows L2 UX
section
variable {X : Cx} {pins : List (Addr × Obj)} {σ : L2.St} {H : Hp} {s : Shared} {a b : Addr} {r : Value} {d : V} {k : List Key} {A : Around} {E : Value → Shared → Prop}
end
section
variable {X : Cx} {o e f : Expr} {td ty tx : TE} {apos cpos : Pos}
end
end UY
namespace UY
open PySem PySem.Spec PyProof.Rows L2
section
variable {prog : Program} {w : World} {A : Around} {R : Result → Shared → Prop} {s : Shared} {env : Env} {el ta ia tb ib : Expr} {fa fb : List Expr} {sc : Scope} {ps : Pos} {it ac : Value}
end
section
variable {X : Cx}
end
end UY
namespace UX
open PySem PySem.Spec PyProof.Rows L2 UY
open EL (Ex RB BOk Bn TK)
section
variable {F : Fr} {δ : Dl} {wi wi1 : TI} {g g1 : TG} {tt tt1 : TT} {te : TE} {vs vs1 : List Nat} {w0 : M (List U)} {w : World}
end
section
variable {F : Fr} {S L : Type} {δ : Dl} {tz : TS} {δn : S → Dl} {δl : L → Dl}
end
end UX
namespace UY
open PySem PySem.Spec PyProof.Rows L2
section
variable {X : Cx}
end
end UY
namespace UX
open PySem PySem.Spec PyProof.Rows L2 UY
open EL (Ex RB BOk Bn TK)
section
variable {F : Fr}
end
end UX
namespace UY
open PySem PySem.Spec PyProof.Rows L2
section
variable {X : Cx} {pins : List (Addr × Obj)} {σ : L2.St} {H : Hp} {s : Shared}
end
end UY
namespace UX
open PySem PySem.Spec PyProof.Rows L2 UY
open EL (Ex RB BOk Bn TK)
section
variable {G : Cxt} {rs : List Addr} {B : Bn} {H : Hp}
end
section
variable {F : Fr}
end
section
variable {F : Fr} {S L : Type} {δ : Dl} {δn : S → Dl} {δl : L → Dl} {t2 : TS} {i : Nat}
theorem ownZ_snoc1 {P : Nat → U → V → Hp → List Addr → Prop} {H : Hp} {u : U} {v : V} {A' : List Addr} : ∀ {us : List U} {n : Nat} {vs : List V} {A : List Addr}, ownZ P n us vs H A → P (n + us.length) u v H A' → ownZ P n (us ++ [u]) (vs ++ [v]) H (A ++ A')
  | [], n, _, _, ⟨e1, e2⟩, p => by subst e1 e2; exact ⟨v, [], A', [], rfl, by simp, by simpa using p, rfl, rfl⟩
  | x :: us, n, _, _, ⟨w, r, A1, A2, e1, e2, h1, h2⟩, p => by
    subst e1 e2
    exact ⟨w, r ++ [v], A1, A2 ++ A', rfl, by simp, h1, ownZ_snoc1 h2 (by rw [show n + 1 + us.length = n + (us.length + 1) by omega]; exact p)⟩
end
section
variable {F : Fr} {δ : Dl} {ta : TA} {wa : M (List U)} {E : XK} {f : List U → M U}
end
section
variable {F : Fr}
end
end UX
namespace UY
open PySem PySem.Spec PyProof.Rows L2
section
variable {prog : Program} {w : World} {A : Around} {E : Value → Shared → Prop} {s : Shared}
theorem places_rev (n : Nat) : Builtin.Slice.slicePlaces ((n : Int) - 1) (-1) (-1) = n := by
  unfold Builtin.Slice.slicePlaces
  have h1 : ¬ ((-1 : Int) > 0) := by omega
  simp only [h1, if_false, Int.neg_neg, Int.ediv_one]
  split <;> omega
theorem sliceApplied_rev {sl : Addr} {vs : Value} {n : Nat} {Q : Int × Int × Nat → Shared → Prop} (hs : s.heap.IsSliceOf sl .none .none vs) (ps : IsPart vs (some (-1)))
    (h : Q ((n : Int) - 1, -1, n) s) : wpAny (model prog w) A (Builtin.Slice.sliceApplied (.ref sl) (pure (n : Int))) Q E s := by
  obtain ⟨os, hos, hcs, hds⟩ := id hs
  unfold Builtin.Slice.sliceApplied Builtin.Slice.sliceFields
  refine wpAny_bind (wpAny_bind (wpAny_field hos hds (x := .none) rfl (wpAny_bind (wpAny_field hos hds (x := .none) rfl (wpAny_bind (wpAny_field hos hds (x := vs) rfl (wpAny_pure ?_)))))))
  refine wpAny_bind (HT.slicePart_ ps ?_)
  show wpAny _ _ (if ((-1 : Int) == 0) = true then _ else _) _ _ s
  rw [if_neg (by decide)]
  refine wpAny_bind (HT.slicePart_ .none (wpAny_bind (HT.slicePart_ .none (wpAny_bind (wpAny_pure ?_)))))
  show wpAny _ _ (pure ((n : Int) - 1, (-1 : Int), Builtin.Slice.slicePlaces ((n : Int) - 1) (-1) (-1))) _ _ s
  rw [places_rev]
  exact wpAny_pure h
theorem fm_map {α β : Type} {f : α → Option β} {g : α → β} : ∀ {l : List α}, (∀ m ∈ l, f m = some (g m)) → l.filterMap f = l.map g
  | [], _ => rfl
  | x :: l, h => by rw [List.filterMap_cons, h x List.mem_cons_self, List.map_cons, fm_map fun m mm => h m (List.mem_cons_of_mem _ mm)]
theorem pick_rev (xs : Array Value) : ((List.range xs.size).filterMap fun (m : Nat) => xs[((xs.size : Int) - 1 + (m : Int) * -1).toNat]?).toArray = xs.toList.reverse.toArray := by
  congr 1
  have e : (List.range xs.size).filterMap (fun (m : Nat) => xs[((xs.size : Int) - 1 + (m : Int) * -1).toNat]?) = (List.range xs.size).map fun m => xs.toList.reverse.getD m .none := by
    refine fm_map fun m hm => ?_
    have hm := List.mem_range.mp hm
    have e1 : ((xs.size : Int) - 1 + (m : Int) * -1).toNat = xs.size - 1 - m := by omega
    rw [e1]
    have h1 : xs.size - 1 - m < xs.size := by omega
    rw [Array.getElem?_eq_getElem h1, List.getD_eq_getElem?_getD, List.getElem?_reverse (by simpa using hm)]
    simp [h1]
  rw [e]
  refine List.ext_getElem (by simp) fun i h1 h2 => ?_
  simp only [List.getElem_map, List.getElem_range]
  rw [List.getD_eq_getElem?_getD, List.getElem?_eq_getElem h2]; rfl
theorem getItem_tuple_rev {t sl : Addr} {items : Array Value} {vs : Value} {Q : Value → Shared → Prop} (ht : IsTup s.heap t items) (hs : s.heap.IsSliceOf sl .none .none vs) (ps : IsPart vs (some (-1)))
    (h : Q (.ref s.heap.objs.size) { s with heap := s.heap.push { cls := .type "tuple", data := .seq items.toList.reverse.toArray } })
    (hsz : items.size ≤ sizeLine) : wpAny (model prog w) A (getItem (.ref t) (.ref sl)) Q E s := by
  have htake : sizeOk (.seq items.toList.reverse.toArray) := by
    show items.toList.reverse.toArray.size ≤ sizeLine
    rw [List.size_toArray, List.length_reverse, Array.length_toList]
    omega
  obtain ⟨os, hos, hcs, hds⟩ := id hs
  have hTs : s.TypeIs (.ref sl) "slice" := ⟨os, hos, hcs⟩
  unfold getItem
  try with_reducible refine wpAny_holding ?_
  first | refine wpAny_bind (wpAny_pure ?_) | skip
  refine wpAny_bind (wpAny_sequenceKey ht.typeIs (by decide) ?_)
  refine wpAny_bind (wpAny_callSpecial?_slot (name := Str.ofString "__getitem__") ht.typeIs PyProof.Rows.slot_tuple_getitem
    (wpAny_call_entry PyProof.Rows.slot_tuple_getitem ht.typeIs entry_tuple_getitem ?_ (args_tuple_getitem _ _)))
  show wpAny _ _ (Builtin.Tuple.tupleItemsOf (.ref t) >>= _) _ _ s
  refine wpAny_bind (tupleItemsOf_ ht ?_)
  refine wpAny_bind (wpAny_typeOf hTs ?_)
  rw [if_pos (by decide)]
  refine wpAny_bind (sliceApplied_rev hs ps ?_)
  have hno : ¬ ((((items.size : Int) - 1) == 0 && (-1 : Int) == 1 && items.size == items.size) = true) := by
    intro q
    rw [Bool.and_eq_true, Bool.and_eq_true] at q
    exact absurd q.1.2 (by decide)
  show wpAny _ _ (if (((items.size : Int) - 1) == 0 && (-1 : Int) == 1 && items.size == items.size) = true then _ else _) _ _ s
  rw [if_neg hno, pick_rev]
  first
    | exact wpAny_bind (m := Builtin.Tuple.tupleExact _) (wpAny_newObj_type (wpAny_pure ⟨_, rfl, wpAny_pure h⟩) htake)
    | exact wpAny_bind (m := Builtin.Tuple.tupleExact _) (wpAny_newObj_type (wpAny_bind (wpAny_pure (wpAny_pure ⟨_, rfl, wpAny_pure h⟩))) htake)
    | exact wpAny_bind (wpAny_bind (m := Builtin.Tuple.tupleExact _) (wpAny_newObj_type (wpAny_pure (wpAny_pure ⟨_, rfl, wpAny_pure h⟩)) htake))
    | exact wpAny_bind (wpAny_bind (m := Builtin.Tuple.tupleExact _) (wpAny_newObj_type (wpAny_pure ⟨_, rfl, wpAny_pure h⟩) htake))
end
section
variable {X : Cx}
def tRevT (K : PySem.W.Frag) (te : TE) : TE := fun σ H Q => te σ H fun x H1 => ∃ a xs, x = .ref a ∧ SqT K H1 a xs ∧ ∀ p, H1 p = none → Q (.ref p) (upd H1 p (.tup xs.reverse))
theorem pe_revT {e : Expr} {te : TE} {k : Nat} {p1 p2 p3 pos : Pos} (K : PySem.W.Frag) (he : PE X e te) (hK : X.K = K := by rfl) : PE X (.Subscript e (.Slice none none (some (.UnaryOp .USub (.Constant (.int 1) k p1) p2)) p3) pos) (tRevT K te) := by
  subst hK
  refine ⟨fun pins s σ H Q I h => ?_⟩
  refine Subscript_ (thn (he.run pins s σ H _ I h) fun v s1 ⟨x, H1, I1, r1, q1⟩ => ?_)
  obtain ⟨a, xs, ex, hx, q⟩ := q1
  subst ex
  cases r1
  have hst : PO X (some (.UnaryOp .USub (.Constant (.int 1) k p1) p2)) (tPart (tUn (rU fun i => .int (-i)) (tC (.int 1)))) := po_some (pe_un un_neg pe_int)
  refine wpAny_Slice (thn (po_none.run pins s1 σ H1 (fun o H2 => o = none ∧ H2 = H1) I1 ⟨rfl, rfl⟩) fun vl s2 ⟨l, H2, I2, pl, el, e2⟩ => ?_)
  subst el e2
  refine thn (po_none.run pins s2 σ H2 (fun o H3 => o = none ∧ H3 = H2) I2 ⟨rfl, rfl⟩) fun vu s3 ⟨u, H3, I3, pu, eu, e3⟩ => ?_
  subst eu e3
  refine thn (hst.run pins s3 σ H3 (fun o H4 => o = some (-1) ∧ H4 = H3) I3 ⟨1, rfl, -1, rfl, rfl, rfl⟩) fun vs s4 ⟨o, H4, I4, ps, eo, e4⟩ => ?_
  subst eo e4
  cases pl
  cases pu
  have I5 : Inv X pins σ H4 { s4 with heap := s4.heap.push { cls := .type "slice", data := .fields #[.none, .none, vs] } } := I4.kept (t' := s4.toks) fun b ob q => Heap.get?_push_of_some _ q
  obtain ⟨its, r, ht, hz⟩ := I5.tuple hx
  have hlen := r.length
  show wpAny (model X.prog X.w) X.A (subscriptTail e (.Slice none none (some (.UnaryOp .USub (.Constant (.int 1) k p1) p2)) p3) (.ref a) (.ref s4.heap.objs.size)) (EP X pins σ Q) X.xe { s4 with heap := s4.heap.push { cls := .type "slice", data := .fields #[.none, .none, vs] } }
  refine tail_any (ops := [.ref a, .ref s4.heap.objs.size]) ht.typeIs (PyProof.Rows.slot_tuple_getitem.lookup) ?_ (by with_unfolding_all rfl)
  refine getItem_tuple_rev ht (Heap.IsSliceOf.new _ .none .none vs) ps ?_ (by rw [List.size_toArray]; omega)
  refine ⟨.ref _, _, I5.laid (t' := s4.toks) (o := .tup xs.reverse) (fun b ob q => Heap.get?_push_of_some _ q) (Nat.le_refl _) ?_, rfl, q _ (I5.hok.fresh (Nat.le_refl _))⟩
  exact ⟨by rw [List.length_reverse]; exact hz, _, r.reverse, IsTup.new _ _⟩
end
end UY
namespace UX
open PySem PySem.Spec PyProof.Rows L2 UY
open EL (Ex RB BOk Bn TK)
def revTU : U → Option U
  | .tup us => some (.tup us.reverse)
  | _ => none
section
variable {F : Fr} {δ : Dl} {te : TE} {wa : M U}
theorem ev_revT (ha : EvR F te δ wa) : EvW F (tRevT F.G.K te) δ (op1 revTU wa) := fun os as st γ σ H c st' S q QQ k => by
  obtain ⟨a, st1, qa, q⟩ := M.bind_inv q
  obtain ⟨e, rfl⟩ := M.o_inv q
  refine ha os as st γ σ H a _ S qa _ fun x H1 as1 g1 S1 px => ?_
  cases a <;> simp only [revTU] at e <;> first | cases e | skip
  obtain ⟨a, vs, e, s, pv⟩ := px
  exact ⟨a, vs, e, EL.sqT_of s, fun p hp => k _ _ as1 (g1.trans (Go.of_ex (Ex.new hp))) (S1.ex (Ex.new hp)) ⟨p, _, rfl, upd_same, imAll_st (RB.of_ex (Ex.new hp)) _ _ (imAll_rev pv)⟩⟩
end
section
variable {F : Fr} {S L : Type} {δ : Dl} {tz : TS} {δn : S → Dl} {δl : L → Dl}
end
end UX
namespace UY
open PySem PySem.Spec PyProof.Rows L2
section
variable {X : Cx}
end
end UY
namespace UX
open PySem PySem.Spec PyProof.Rows L2 UY
open EL (Ex RB BOk Bn TK)
section
variable {F : Fr} {os : Os} {as as' : SA} {st st' : Sto} {γ : List (U × V)} {H H' : Hp} {σ : L2.St} {δ : Dl}
structure DS (F : Fr) (os : Os) (k0 : Nat) (D : Addr) (as : SA) (st : Sto) (γ : List (U × V)) (H : Hp) (σ : L2.St) (δ : Dl) (d : U) : Prop where
  S : SDo F ((k0, [D]) :: os) as st γ H σ δ
  a : (∃ ks us vs, d = .dct ks us ∧ H D = some (.dK (ks.zip vs)) ∧ ks.length = us.length ∧ imAll F.G (rts as) (ban F ((k0, [D]) :: os) as) us vs H) ∨
    ∃ ks us vs, d = .dcT ks us ∧ H D = some (.dT (ks.zip vs)) ∧ ks.length = us.length ∧ imAll F.G (rts as) (ban F ((k0, [D]) :: os) as) us vs H
variable {k0 : Nat} {D : Addr} {d : U}
theorem DS.go (l : DS F os k0 D as st γ H σ δ d) {σ' : L2.St} {δ' : Dl} (g : Go as as' H H') (S : SDo F ((k0, [D]) :: os) as' st' γ H' σ' δ') : DS F os k0 D as' st' γ H' σ' δ' d := by
  have keep : ∀ o, H D = some o → H' D = some o := fun o e => g.rb.keep _ _ (fun m => (List.nodup_append.mp l.S.nd).2.2 D (List.mem_append_left _ List.mem_cons_self) D m rfl) e
  refine ⟨S, ?_⟩
  rcases l.a with ⟨ks, us, vs, e, h, le, q⟩ | ⟨ks, us, vs, e, h, le, q⟩
  · exact .inl ⟨ks, us, vs, e, keep _ h, le, imAll_go g q⟩
  · exact .inr ⟨ks, us, vs, e, keep _ h, le, imAll_go g q⟩
theorem DS.put (l : DS F os k0 D as st γ H σ δ d) (hk : δ.length ≤ k0) {k x d' : U} {y v : V} (e : putU d k x = some d') (pk : im F.G (rts as) (ban F ((k0, [D]) :: os) as) k y H) (px : im F.G (rts as) (ban F ((k0, [D]) :: os) as) x v H) :
    ∃ o, DPut H D y v (upd H D o) ∧ DS F os k0 D as st γ (upd H D o) σ δ d' := by
  have upS : ∀ {o o' : HO}, H D = some o → (∀ xs, o ≠ .tup xs) → (∀ y u, o ≠ .frz y u) → SDo F ((k0, [D]) :: os) as st γ (upd H D o') σ δ ∧ ∀ {us : List U} {vs : List V}, imAll F.G (rts as) (ban F ((k0, [D]) :: os) as) us vs H → imAll F.G (rts as) (ban F ((k0, [D]) :: os) as) us vs (upd H D o') := fun {o o'} eD nt nf => by
    have c : Chg F ((k0, [D]) :: os) as H (upd H D o') k0 [D] [D] D := chg_same List.mem_cons_self List.mem_cons_self l.S eD nt nf
    have S := l.S.mut c (x := none) (fun _ z => nomatch z)
    have so := setOs_same l.S.ix (List.mem_cons_self (a := (k0, [D])) (l := os))
    rw [so] at S
    rw [List.set_eq_of_length_le hk] at S
    exact ⟨S, fun h => by have := c.imAll h; rw [so] at this; exact this⟩
  rcases l.a with ⟨ks, us, vs, rfl, eD, le, q⟩ | ⟨ks, us, vs, rfl, eD, le, q⟩
  · simp only [putU] at e
    split at e
    case isFalse => cases e
    rename_i hl
    cases ek : keyU k with
    | none => rw [ek] at e; cases e
    | some key =>
      rw [ek] at e
      simp only at e
      have ey := im_key ek pk
      subst ey
      have hz : (ks.zip vs).length < sizeLine := by rw [List.length_zip]; omega
      obtain ⟨ks', us', e5, rfl⟩ : ∃ ks' us', (match idxK key ks with | some j => if ks.Nodup then some (ks, us.set j x) else none | none => some (ks ++ [key], us ++ [x])) = some (ks', us') ∧ d' = .dct ks' us' := by
        cases ei : idxK key ks with
        | some j =>
          rw [ei] at e
          simp only at e ⊢
          split at e
          · rename_i nd; cases e; exact ⟨_, _, if_pos nd, rfl⟩
          · cases e
        | none => rw [ei] at e; cases e; exact ⟨_, _, rfl, rfl⟩
      obtain ⟨vs', p1, p2, p3⟩ := put_zip le q px e5
      obtain ⟨S, up⟩ := upS (o' := .dK (putK (ks.zip vs) key v)) eD (fun _ z => nomatch z) (fun _ _ z => nomatch z)
      exact ⟨_, DPut.k eD hz, S, .inl ⟨ks', us', vs', rfl, by rw [upd_same, p1], p2, up p3⟩⟩
  · simp only [putU] at e
    split at e
    case isFalse => cases e
    rename_i hl
    cases ek : tkeyU k with
    | none => rw [ek] at e; cases e
    | some key =>
      rw [ek] at e
      simp only at e
      obtain ⟨b, ey, hb⟩ := im_tkey ek pk
      subst ey
      have hz : (ks.zip vs).length < sizeLine := by rw [List.length_zip]; omega
      obtain ⟨ks', us', e5, rfl⟩ : ∃ ks' us', (match idxK key ks with | some j => if ks.Nodup then some (ks, us.set j x) else none | none => some (ks ++ [key], us ++ [x])) = some (ks', us') ∧ d' = .dcT ks' us' := by
        cases ei : idxK key ks with
        | some j =>
          rw [ei] at e
          simp only at e ⊢
          split at e
          · rename_i nd; cases e; exact ⟨_, _, if_pos nd, rfl⟩
          · cases e
        | none => rw [ei] at e; cases e; exact ⟨_, _, rfl, rfl⟩
      obtain ⟨vs', p1, p2, p3⟩ := put_zip le q px e5
      obtain ⟨S, up⟩ := upS (o' := .dT (putK (ks.zip vs) key v)) eD (fun _ z => nomatch z) (fun _ _ z => nomatch z)
      exact ⟨_, DPut.t eD hb hz, S, .inr ⟨ks', us', vs', rfl, by rw [upd_same, p1], p2, up p3⟩⟩
end
section
variable {F : Fr} {δ : Dl} {wi : TI} {g : TG} {tt : TT} {tk tv : TE} {vs : List Nat} {wl : M (List U)}
end
end UX
namespace UY
open PySem PySem.Spec PyProof.Rows L2
section
variable {X : Cx}
end
end UY
namespace UX
open PySem PySem.Spec PyProof.Rows L2 UY
open EL (Ex RB BOk Bn TK)
section
variable {F : Fr} {δ : Dl} {ta tb : TE} {wa wb : M U}
end
end UX
namespace UY
open PySem PySem.Spec PyProof.Rows L2
section
variable {X : Cx}
end
end UY
namespace UX
open PySem PySem.Spec PyProof.Rows L2 UY
open EL (Ex RB BOk Bn TK)
open RT
section
variable {F : Fr} {δ : Dl} {td ty te : TE} {wd wk w : M U}
end
section
variable {G : Cxt} {rs : List Addr} {B : Bn} {H : Hp}
end
section
variable {F : Fr} {S L : Type} {δ : Dl} {δn : S → Dl} {δl : L → Dl} {t2 : TS} {i : Nat} {tx : TE}
end
end UX
namespace UY
open PySem PySem.Spec PyProof.Rows L2
section
variable {X : Cx} {e : Expr} {t : TE}
end
end UY
namespace UX
open PySem PySem.Spec PyProof.Rows L2 UY
open EL (Ex RB BOk Bn TK)
section
variable {F : Fr} {os : Os} {as as' : SA} {st st' : Sto} {γ : List (U × V)} {H H' : Hp} {σ : L2.St} {δ : Dl} {d : Addr} {u0 : HO} {od : Obj}
end
section
variable {F : Fr} {δ : Dl} {g : TG} {tt : TT} {td te : TE} {vs : List Nat}
end
end UX
namespace UY
open PySem PySem.Spec PyProof.Rows L2
end UY
namespace UX
open PySem PySem.Spec PyProof.Rows L2 UY
open EL (Ex RB BOk Bn TK)
section
variable {F : Fr} {δ : Dl} {ta tb : TE} {wa wb : M U}
end
end UX
namespace UX
open PySem PySem.Spec PyProof.Rows L2
open EL (Ex RB BOk Bn TK FnG okG rm66)
section
variable {prog : Program} {w : World} {A : Around} {E : Value → Shared → Prop} {s : Shared} {K : PySem.W.Frag} {x C L f : Addr} {h₀ : Heap} {m : Str → Option Value} {ox : Obj} {od : Option Obj} {b tb : Value}
end
section
variable {X : Cx} {CX : CXT} {k : Nat} {f C : Addr} {fd : FuncData} {ps : List Str} {sp : Sp} {E : XK}
end
section
variable {F : Fr} {δ : Dl} {ta tb : TE} {wa wb : M U} {E : XK} {f : List U → M U} {c : Str} {g : Bool → Bool}
end
section
variable {X : Cx} {CX : CXT} {k : Nat} {f C : Addr} {fd : FuncData} {ps : List Str} {sp : Sp} {E : XK}
end
section
variable {F : Fr} {δ : Dl} {ta : TE} {wa : M U} {E : XK} {f : List U → M U} {c : Str}
end
end UX
namespace UX
open PySem PySem.Spec PyProof.Rows L2
open EL (Ex RB BOk Bn TK)
section
variable {fa : List He.Fa} {fn : List He.DefD} {ts : List He.Tab} {vs : List Vls} {xs : List FaX} {w : World} {K : PySem.W.Frag}
theorem SaysV.u (c : SaysV fa fn ts vs xs w K) : SaysU fa fn ts vs w K := by
  have e1 : He.obsT fa fn ts K = He.valT fn ts w := congrArg (fun z : AlU => z.1) c
  have e2 : ((vs.all fun q => He.valsB K (q.1 K) q.2) && xs.all fun x => x.ok K) = true := congrArg (fun z : AlU => z.2) c
  show ((_, _) : AlU) = (_, _)
  rw [e1, (Bool.and_eq_true_iff.mp e2).1]
theorem SaysV.x (c : SaysV fa fn ts vs xs w K) (i : Nat) {x : FaX} (h : xs[i]? = some x) : x.ok K = true := by
  have e2 : ((vs.all fun q => He.valsB K (q.1 K) q.2) && xs.all fun x => x.ok K) = true := congrArg (fun z : AlU => z.2) c
  exact List.all_eq_true.mp (Bool.and_eq_true_iff.mp e2).2 x (List.mem_of_getElem? h)
end
section
variable {F : Fr} {δ : Dl} {ta tk : TA} {wa wk : M (List U)} {E : XK} {f : List U → M U} {n m : Nat}
end
structure InsF (K : PySem.W.Frag) (C : Addr) : Prop where
  cl : Cls K C
  ha : PySem.W.findIn K (.ref C) "__class__" = some (some (.builtin "object.__class__"))
  hn : PySem.W.specialIn K (.builtin "object.__class__") "__get__" = some (some (.builtin "getset_descriptor.__get__"))
  ht : PySem.W.takesIn K (.builtin "object.__class__") = some true
  hm : PySem.W.mroIn K C (.type "object") = some true
  ty : (PySem.W.typeIn K (.ref C) == some (.type "type")) = true
  nt : ∀ t ∈ okT, PySem.W.mroIn K C (.type t) = some false
section
variable {F : Fr} {δ : Dl} {ta : TE} {wa : M U} {c : Str}
end
section
variable {F : Fr} {δ : Dl} {ta tb : TE} {wa wb : M U}
end
structure FrA (G : Cxt) (B : Bn) (H0 : Hp) (A : List Addr) (as : SA) (st : Sto) (H : Hp) (u : U) (v : V) : Prop where
  own : ownD G (rts as) (fun a => B a ∨ a ∈ A ∨ a ∈ fl as) (.lst .leaf) u v H A
  new : ∀ a ∈ A, H0 a = none ∧ ¬ B a ∧ a ∉ fl as
  sto : StOk G (fun a => B a ∨ a ∈ A ∨ a ∈ fl as) (rts as) as st H
def frR (G : Cxt) (B : Bn) (H0 : Hp) : SA → Sto → Hp → U → V → Prop := fun as st H u v => ∃ A, FrA G B H0 A as st H u v
def spMN (G : Cxt) (f : List U → M U) : Sp := fun vs H Q _ => ∃ (B : Bn) (as : SA) (st : Sto) (us : List U) (u : U) (st' : Sto),
  BOk (ban ⟨G, B, H, as, noR⟩ [] as) H ∧ (fl as).Nodup ∧ (∀ a ∈ fl as, ¬ B a) ∧ StOk G (ban ⟨G, B, H, as, noR⟩ [] as) (rts as) as st H ∧ imAll G (rts as) (ban ⟨G, B, H, as, noR⟩ [] as) us vs H ∧ f us st = some (.ok u, st') ∧
  ∀ as' v H', Rt ⟨G, B, H, as, frR G B H⟩ as' st' H' u v → Q v H'
section
variable {F : Fr} {δ : Dl}
end
section
variable {P : Program} {w : World} {K : PySem.W.Frag} {mg : Str → Option Value} {bs : Heap} {CX : CXT} {x qu : Str} {pa : Arguments} {bo : List Stmt} {sc : Scope} {dv : List V} {kw : List (Str × V)} {f : Addr} {fd : FuncData}
end
section
variable {F : Fr} {δ : Dl} {ta : TA} {wa : M (List U)} {E : XK} {f : List U → M U}
theorem SDo.fresh {os : Os} {as as' : SA} {st st' : Sto} {γ : List (U × V)} {H H' : Hp} {σ : L2.St} {k : Nat} {A : List Addr} {u : U} {v : V} (S : SDo F os as st γ H σ δ) (g : Go as as' H H') (S2 : SDo F os as' st' γ H' σ δ)
    (r : FrA F.G (fun a => F.B a ∨ a ∈ flo os) H A as' st' H' u v) (hk : k ∉ os.map (·.1)) : SDo F ((k, A) :: os) as' st' γ H' σ δ := by
  cases u with
  | lst us => ?_
  | _ => exact r.own.elim
  obtain ⟨p, vs, ev, rfl, hp', _⟩ := own_lst.mp r.own
  obtain ⟨hp, hnB, hnf⟩ := r.new p (List.mem_singleton.mpr rfl)
  have hA : ∀ a ∈ [p], H a = none := fun a m => by rw [List.mem_singleton] at m; rw [m]; exact hp
  have sb := sub_cons (F := F) (os := os) (as := as) (k := k) hA
  have up : ∀ u v, im F.G (rts as) (ban F os as) u v H → im F.G (rts as') (ban F ((k, [p]) :: os) as') u v H' := fun u v h => im_go g (im_sub sb _ _ h)
  have tp : ∀ a xs, H a = some (.tup xs) → H' a = some (.tup xs) := fun a xs h => g.rb.tup _ _ h
  refine ⟨fun q m => up _ _ (S.gh q m), S2.rel, fun a b => ?_, ?_, List.nodup_cons.mpr ⟨hk, S2.ix⟩, fun a m => ?_, fun a z => ?_, StOk.mono (fun _ _ h => im_sub (fun a _ b => ?_) _ _ h) (fun _ _ h => h) (fun _ _ => rfl) r.sto, S2.len, fun i x e1 => ?_⟩
  · rcases ban_cons.mp b with z | z
    · rw [List.mem_singleton] at z; rw [z, hp']; exact fun z => nomatch z
    · exact S2.ok a z
  · rw [flo_cons]
    show (p :: (flo os ++ fl as')).Nodup
    refine List.nodup_cons.mpr ⟨fun m => ?_, S2.nd⟩
    rcases List.mem_append.mp m with m | m
    · exact hnB (.inr m)
    · exact hnf m
  · rw [flo_cons] at m
    rcases List.mem_append.mp m with m | m
    · rw [List.mem_singleton] at m; rw [m]; exact S.rel.fresh hp
    · exact S2.new a m
  · rw [flo_cons] at z
    rcases z with z | z
    · rcases List.mem_append.mp z with z | z
      · rw [List.mem_singleton] at z; rw [z]; exact fun b => hnB (.inl b)
      · exact S2.nb a (.inl z)
    · exact S2.nb a (.inr z)
  · rcases ban_cons.mp b with z | z
    · exact .inr (.inl z)
    · rcases z with z | z | z
      · exact .inl (.inl z)
      · exact .inl (.inr z)
      · exact .inr (.inr z)
  · obtain ⟨v, h1, h2⟩ := S.at_ i x e1
    refine ⟨v, h1, ?_⟩
    match x, h2 with
    | .im u, h2 => exact up _ _ h2
    | .raw _, h2 => exact h2
    | .own sh u, ⟨A, m, h2⟩ =>
      refine ⟨A, List.mem_cons_of_mem _ m, own_mono up tp _ _ _ _ (fun a z => ?_) h2⟩
      have hal := S.ok a (.inr (.inl (mem_flo m z)))
      cases q : H a with
      | none => exact absurd q hal
      | some o => exact g.rb.keep a o (fun b => (List.nodup_append.mp S.nd).2.2 a (mem_flo m z) a b rfl) q
theorem en_call (h : EvAW F ta δ wa) : EvN F (.lst .leaf) (tCall (spMN F.G f) [] E ta) δ (callM f wa) := fun os as st γ σ H c st' S q QQ k => by
  obtain ⟨us, st1, qa, q⟩ := M.bind_inv q
  refine h os as st γ σ H us st1 S qa _ fun vs H1 as1 g1 S1 pv => ?_
  show spMN F.G f (vs ++ []) H1 QQ E
  rw [List.append_nil]
  obtain ⟨ok, nb, e⟩ := S1.enter
  refine ⟨fun a => F.B a ∨ a ∈ flo os, as1, st1, us, c, st', ok, (List.nodup_append.mp S1.nd).2.1, nb, StOk.mono (fun _ _ h => im_sub (fun a _ b => (e a).mp b) _ _ h) (fun _ _ h => h) (fun _ _ => rfl) S1.sto, imAll_sub (fun a _ b => (e a).mp b) _ _ pv, q, fun as' v H' r => ?_⟩
  obtain ⟨S2, p⟩ := S1.leave (st' := st') (u := c) (v := v) ⟨r.rel, r.ok, r.nd, r.nb, r.sto, r.im, trivial⟩
  obtain ⟨A, fr⟩ := r.r
  refine k v H' as' A (g1.trans r.rel) (fun k hk => S1.fresh r.rel S2 fr hk) (own_mono (fun u v h => im_sub (fun a _ b => ?_) _ _ h) (fun _ _ h => h) _ _ _ _ (fun _ _ => rfl) fr.own) fun a m => g1.fresh (fr.new a m).1
  rcases ban_cons.mp b with z | z
  · exact .inr (.inl z)
  · rcases z with z | z | z
    · exact .inl (.inl z)
    · exact .inl (.inr z)
    · exact .inr (.inr z)
end
section
variable {X : Cx} {CX : CXT} {k : Nat} {f C : Addr} {fd : FuncData} {ps : List Str} {sp : Sp} {E : XK}
end
section
variable {F : Fr} {δ : Dl} {ta tb : TE} {wa wb : M U} {E : XK} {f : List U → M U} {c : Str}
end
end UX
namespace GQ
open PySem PySem.SeqAt
open AutoSeq1 (wpAny_loadPart')
open MeetsSeq MeetsSeq2 MeetsSeq3 SeqRoads2
section
variable {prog : Program} {w : World} {A : Around} {R : Result → Shared → Prop}
end
section
variable {prog : Program} {w : World} {A : Around} {E : Value → Shared → Prop} {s : Shared}
end
end GQ
namespace UX
open PySem PySem.Spec PyProof.Rows L2
open EL (Ex RB BOk Bn TK)
section
variable {G : Cxt} {rs : List Addr} {B : Bn} {H : Hp}
end
section
variable {X : Cx} {CX : CXT} {k : Nat} {f C : Addr} {fd : FuncData} {ps : List Str} {sp : Sp} {E : XK}
end
section
variable {F : Fr} {δ : Dl} {ta tb : TE} {wa wb : M U} {E : XK} {f : List U → M U} {c : Str} {g : Bool → Bool}
end
end UX
namespace UX
open PySem PySem.Spec PyProof.Rows L2
open EL (Ex RB BOk Bn TK rAddU rMulU)
section
variable {F : Fr} {δ : Dl} {ta tb : TE} {wa wb : M U}
end
end UX
namespace GQ
open PySem PySem.SeqAt PyProof.Rows
open AutoSeq1 (wpAny_loadPart')
open MeetsSeq MeetsSeq2 MeetsSeq3 SeqRoads2
section
variable {prog : Program} {w : World} {A : Around} {s : Shared} {x C dx : Addr} {K : PySem.W.Frag} {od : Option Obj} {E : Value → Shared → Prop} {Q : PySem.Fin → Shared → Prop}
end
section
variable {prog : Program} {w : World} {A : Around} {s : Shared} {x C dx f L : Addr} {K : PySem.W.Frag} {od : Option Obj} {E : Value → Shared → Prop} {Q : Value → Shared → Prop} {h₀ : Heap} {m : Str → Option Value}
end
end GQ
namespace UX
open PySem PySem.Spec PyProof.Rows L2
open EL (Ex RB BOk Bn TK)
inductive TyE (H : Hp) : V → String → Prop where
  | non : TyE H .non "NoneType"
  | bl (b : Bool) : TyE H (.bl b) "bool"
  | int (i : Int) : TyE H (.int i) "int"
  | str (x : Str) : TyE H (.str x) "str"
  | tup {a : Addr} {xs : List V} (e : H a = some (.tup xs)) : TyE H (.ref a) "tuple"
  | lst {a : Addr} {xs : List V} (e : H a = some (.lst xs)) : TyE H (.ref a) "list"
section
variable {X : Cx} {CX : CXT} {k : Nat} {f C : Addr} {fd : FuncData} {ps : List Str} {sp : Sp} {E : XK}
end
end UX
namespace GQ
open PySem PySem.SeqAt PyProof.Rows
open AutoSeq1 (wpAny_loadPart')
open MeetsSeq MeetsSeq2 MeetsSeq3 SeqRoads2
section
variable {prog : Program} {w : World} {A : Around} {R : Result → Shared → Prop}
end
section
variable {prog : Program} {w : World} {A : Around} {E : Value → Shared → Prop} {s : Shared}
end
end GQ
namespace UX
open PySem PySem.Spec PyProof.Rows L2
open EL (Ex RB BOk Bn TK)
def AskW (sp : Sp) (E : XK) (vs : List V) (H : Hp) (Q : Bool → Hp → Prop) : Prop := sp vs H (fun v H' => ∃ k, v = .bl k ∧ Q k H') E
def CmpW (K : PySem.W.Frag) (C : Addr) (sp : Sp) (E : XK) (x y : V) (H : Hp) (Q : Bool → Hp → Prop) : Prop :=
  (∃ a dx fs, x = .ref a ∧ H a = some (.ins C dx fs) ∧ ((∃ b dy gs, y = .ref b ∧ H b = some (.ins C dy gs)) ∨ (∃ t, TyX K H y (.type t) ∧ t ∈ okT)) ∧ AskW sp E [x, y] H Q) ∨
  (∃ a dx fs t, y = .ref a ∧ H a = some (.ins C dx fs) ∧ TyE H x t ∧ t ∈ okT ∧ AskW sp E [y, x] H Q)
section
variable {X : Cx} {CX : CXT} {k : Nat} {f C : Addr} {fd : FuncData} {ps : List Str} {sp : Sp} {E : XK}
theorem CmpW.kind {K : PySem.W.Frag} {x y : V} {H : Hp} {Q : Bool → Hp → Prop} (h : CmpW K C sp E x y H Q) : (∃ b, x = .ref b) ∨ ∃ t, TyE H x t := by
  rcases h with ⟨a, dx, fs, rfl, _⟩ | ⟨a, dx, fs, t, _, _, ty, _⟩
  · exact .inl ⟨_, rfl⟩
  · exact .inr ⟨t, ty⟩
end
section
variable {F : Fr} {δ : Dl} {ta tb : TE} {wa wb : M U} {E : XK} {f : List U → M U} {c : Str} {g : Bool → Bool}
end
section
variable {F : Fr} {δ : Dl} {ta tb : TE} {wa wb : M U} {E : XK} {f : List U → M U} {c : Str} {g : Bool → Bool}
end
end UX
namespace UX
open PySem PySem.Spec PyProof.Rows L2 UY
open EL (Ex RB BOk Bn TK)
section
variable {F : Fr} {δ : Dl} {wi wi1 : TI} {g g1 : TG} {tt tt1 : TT} {te : TE} {vs vs1 : List Nat} {wl : M (List U)} {w : World}
end
end UX
namespace UX
open PySem PySem.Spec PyProof.Rows L2
open EL (Ex RB BOk Bn TK)
inductive EvJs (F : Fr) (δ : Dl) : List TE → List (M U) → Prop where
  | nil : EvJs F δ [] []
  | cons {t : TE} {w : M U} {ts : List TE} {ws : List (M U)} (h : EvW F t δ w) (r : EvJs F δ ts ws) : EvJs F δ (t :: ts) (w :: ws)
section
variable {F : Fr} {δ : Dl} {te : TE} {wa : M U}
end
section
variable {F : Fr} {δ : Dl}
end
end UX
namespace UX
open PySem PySem.Spec PyProof.Rows L2
open EL (Ex RB BOk Bn TK rEqU rNeU rLtU iSeqU rLenQ)
section
variable {F : Fr} {os : Os} {as : SA} {st : Sto} {γ : List (U × V)} {H : Hp} {σ : L2.St} {δ : Dl}
theorem SDo.toCell {k : Nat} {A : List Addr} {a : Addr} {u : U} (S : SDo F ((k, A) :: os) as st γ H σ δ) (hk : δ.length ≤ k) (hu : ∀ c ns us, u ≠ .obj c ns us) (h : ownF F.G (rts as) (ban F ((0, A) :: os) as) u (.ref a) H A) : SDo F os (as ++ [(a, A)]) (st ++ [u]) γ H σ δ := by
  have fle : fl (as ++ [(a, A)]) = fl as ++ A := by simp [fl]
  have rle : rts (as ++ [(a, A)]) = rts as ++ [a] := by simp [rts]
  have bb : ∀ b, ban F os (as ++ [(a, A)]) b → ban F ((k, A) :: os) as b := fun b z => by
    rw [ban_cons]
    rcases z with z | z | z
    · exact .inr (.inl z)
    · exact .inr (.inr (.inl z))
    · rw [fle, List.mem_append] at z
      exact z.elim (fun z => .inr (.inr (.inr z))) .inl
  have rsx : ∀ (i : Nat) (b : Addr), (rts as)[i]? = some b → (rts (as ++ [(a, A)]))[i]? = some b := fun i b e => by
    rw [rle, List.getElem?_append_left (getElem?_lt e)]; exact e
  have up : ∀ u v, im F.G (rts as) (ban F ((k, A) :: os) as) u v H → im F.G (rts (as ++ [(a, A)])) (ban F os (as ++ [(a, A)])) u v H := fun u v h => im_sub (fun b _ z => bb b z) _ _ (im_rs rsx _ _ h)
  have nd : (A ++ (flo os ++ fl as)).Nodup := by rw [← List.append_assoc]; exact S.nd
  have nd' := List.nodup_append.mp nd
  have nd2 := List.nodup_append.mp nd'.2.1
  refine ⟨fun p m => up _ _ (S.gh p m), ⟨S.rel.rb, fun i b e => rsx i b (S.rel.pre i b e), fun b m => ?_⟩, fun b z => S.ok b (bb b z), ?_, (List.nodup_cons.mp S.ix).2, fun b m => S.new b (List.mem_append_right _ m), fun b m => ?_, ?_, S.len, fun i s e => ?_⟩
  · rw [fle, List.mem_append] at m
    rcases m with m | m
    · exact S.rel.new b m
    · exact .inr (S.new b (List.mem_append_left _ m))
  · rw [fle]
    have pm : (A ++ (flo os ++ fl as)).Perm (flo os ++ (fl as ++ A)) := by
      rw [← List.append_assoc (flo os)]
      exact List.perm_append_comm
    exact pm.nodup_iff.mp nd
  · rw [fle, List.mem_append] at m
    rcases m with m | m | m
    · exact S.nb b (.inl (List.mem_append_right _ m))
    · exact S.nb b (.inr m)
    · exact S.nb b (.inl (List.mem_append_left _ m))
  · refine StOk.snoc (ownC_of hu ?_) (StOk.mono up (fun _ _ h => h) (fun _ _ => rfl) S.sto)
    exact ownF_mono up _ _ _ (fun _ _ => rfl) h
  · obtain ⟨v, h1, h2⟩ := S.at_ i s e
    refine ⟨v, h1, ?_⟩
    match s, h2 with
    | .im u, h2 => exact up _ _ h2
    | .raw _, h2 => exact h2
    | .own sh u, ⟨B, m, h2⟩ =>
      refine ⟨B, ?_, own_mono up (fun _ _ h => h) _ _ _ _ (fun _ _ => rfl) h2⟩
      rcases List.mem_cons.mp m with z | m
      · have il := getElem?_lt e
        have : i = k := (Prod.mk.inj z).1
        omega
      · exact m
theorem blk_newC {S L : Type} {δn : S → Dl} {δl : L → Dl} {i : Nat} {te : TE} {t2 : TS} {w : M U} {k : U → M (Out S L)} (h : EvNF F te δ w) (h2 : ∀ u, Blk F t2 (δ.set i (some (.im u))) (k u) δn δl) :
    Blk F (tSeq (tAsg te (gName i)) t2) δ (.bind (.bind w fun u => .bind (.o (lstO u)) allocM) k) δn δl := fun D os as st γ σ H o st' Q q P => by
  obtain ⟨l, st1, ql, q⟩ := M.bind_inv q
  obtain ⟨u, st2, qu, ql2⟩ := M.bind_inv ql
  obtain ⟨u', st3, qx, ql3⟩ := M.bind_inv ql2
  obtain ⟨eu, rfl⟩ := M.o_inv qx
  clear ql ql2
  cases ql3
  refine h os as st γ σ H u _ Q qu _ fun v H1 as1 A g1 S1 p n => ?_
  cases u with
  | lst us => ?_
  | _ => cases eu
  cases eu
  obtain ⟨a, vs, A', e1, e2, e3, q'⟩ := id p
  obtain ⟨k1, hk1, hl1⟩ := nodup_fresh (os.map (·.1)) δ.length
  subst e1
  have ln : as1.length = st3.length := (S1 k1 hk1).sto.len
  have S2 := (S1 k1 hk1).toCell (a := a) hl1 (fun c ns us z => by cases z) p
  refine h2 _ D os _ _ γ _ H1 o st' (S2.set (x := .im (.loc st3.length)) ?_) q P
  refine ⟨a, ?_, rfl⟩
  have rle : rts (as1 ++ [(a, A)]) = rts as1 ++ [a] := by simp [rts]
  rw [rle, ← ln, List.getElem?_append_right (by simp [rts])]
  simp [rts]
def lenLU : U → Option U
  | .lst us => some (.int us.length)
  | _ => none
theorem ev_lenC {r : Bool} {te : TE} {w : M Cl} (h : EvC F r te δ w) : EvW F (tCB (rLenQ F.G.K) (tCons te tNil)) δ (.bind w fun c => .o (lenLU c.2.1)) := fun os as st γ σ H c st' S q QQ k => by
  obtain ⟨c1, st1, q1, q⟩ := M.bind_inv q
  obtain ⟨e, rfl⟩ := M.o_inv q
  refine h os as st γ σ H c1 _ S q1 _ fun x H1 as1 g1 S1 p1 => ?_
  obtain ⟨i, u1, f1⟩ := c1
  cases u1 with
  | lst us =>
    obtain ⟨b, vs, B, e1, e3, z, nB, lt, fin⟩ := p1.setL (us' := us) S1
    subst e1
    cases e
    exact ⟨b, vs, rfl, .inl (.inl (.inl e3)), k _ H1 as1 g1 S1 (by rw [ownFs_len z]; rfl)⟩
  | _ => cases e
def popCM (x : U) (wi : M U) : M U := .bind (locM x) fun c0 => .bind (.o (lstO c0.2.1)) fun _ => .bind wi fun n => .bind (locM x) fun c => .bind (.o (mutC popAtL c [n])) fun d => .bind (putC d.2.1 d.2.2.1) fun _ => .ret d.1
theorem loc_hole {c : Cl} {st' : Sto} {x : U} {v : V} (S : SDo F os as st γ H σ δ) (p : im F.G (rts as) (ban F os as) x v H) (q : locM x st = some (.ok c, st')) : st' = st ∧ HoleC F os as H true c.1 c.2 v := by
  cases x with
  | loc i => ?_
  | _ => cases q
  obtain ⟨a, ea, ev⟩ := p
  cases es : st[i]? with
  | none => simp only [locM, es] at q; cases q
  | some x =>
    simp only [locM, es] at q
    cases q
    obtain ⟨⟨a', A⟩, e1, e2⟩ : ∃ p, as[i]? = some p ∧ p.1 = a := by
      unfold rts at ea
      rw [List.getElem?_map] at ea
      obtain ⟨p, h1, h2⟩ := Option.map_eq_some_iff.mp ea
      exact ⟨p, h1, h2⟩
    simp only at e2
    subst e2
    have := S.sto.get e1 es
    rw [← ev] at this
    exact ⟨rfl, ⟨a', A, [], A, [], e1, by simp, this, fun rs2 B2 H2 u2 A'2 _ _ o2 => by rw [← ev]; have o2 : ownC F.G rs2 B2 u2 v H2 A'2 := o2; simpa using o2⟩⟩
theorem ev_popC {i : Nat} {x : U} {ti : TE} {wi : M U} (hx : δ[i]? = some (some (.im x))) (hi : EvW F ti δ wi) :
    EvW F (tBM F.G.K "list" rPopAt (tVar i) (tCons ti tNil)) δ (popCM x wi) := fun os as st γ σ H c st' S q QQ k => by
  unfold popCM at q
  obtain ⟨c0, st0, q0, qa⟩ := M.bind_inv q
  obtain ⟨u0, st1, qu, qb⟩ := M.bind_inv qa
  obtain ⟨n, st2, q2, qc⟩ := M.bind_inv qb
  obtain ⟨c1, st3, q3, qd⟩ := M.bind_inv qc
  obtain ⟨d, st4, q4, qe⟩ := M.bind_inv qd
  obtain ⟨_, st5, q5, qf⟩ := M.bind_inv qe
  obtain ⟨eu0, rfl⟩ := M.o_inv qu
  obtain ⟨ed, rfl⟩ := M.o_inv q4
  clear q qa qb qc qd qe
  cases qf
  obtain ⟨v, e0, pv⟩ := S.get hx
  obtain ⟨rfl, p1⟩ := loc_hole S pv q0
  refine ⟨v, e0, ?_, ?_⟩
  · obtain ⟨i0, u1, f1⟩ := c0
    cases u1 with
    | lst us =>
      obtain ⟨b, vs, B, e1, e3, z, nB, lt, fin⟩ := p1.setL (us' := us) S
      subst e1
      exact .inl ⟨rfl, vs, EL.sqL_of e3⟩
    | _ => cases eu0
  · refine hi os as _ γ σ H n _ S q2 _ fun y H2 as2 g2 S2 py => ?_
    obtain ⟨rfl, p2⟩ := loc_hole S2 (im_go g2 pv) q3
    obtain ⟨j, u1, f1⟩ := c1
    cases u1 with
    | lst us =>
      simp only [mutC] at ed
      by_cases hl : us.all leafU = true ∧ [n].all leafU = true
      · rw [if_pos hl] at ed
        cases ef : popAtL us [n] with
        | none => rw [ef] at ed; cases ed
        | some p =>
          rw [ef] at ed
          simp only at ed
          by_cases hp : p.2.all leafU = true
          · rw [if_pos hp] at ed
            cases ed
            obtain ⟨b, vs, B, e1, e3, z, nB, lt, fin⟩ := p2.setL (us' := p.2) S2
            unfold putC at q5
            simp only [lt, if_true] at q5
            cases q5
            obtain ⟨zB, hv⟩ := (flat_ownFs hl.1).mp z
            subst e1 zB
            obtain ⟨v', vs', h1, h2', h3⟩ := mut_popAt os as2 H2 b vs us [n] [y] p e3 hv ⟨y, [], rfl, py, rfl⟩ ef
            have S3 := fin vs' fun H3 t kp => (flat_ownFs hp).mpr ⟨rfl, imAll_map t h1⟩
            obtain ⟨a0, A, A1, A', A2, f0, fA, fo, _⟩ := p2.ex
            have mb : b ∈ fl as2 := by
              have fo : ownF F.G (rts as2) (ban F os as2) (.lst us) (.ref b) H2 A' := fo
              obtain ⟨b', vs0, B', z1, z2, _⟩ := fo
              cases z1
              exact mem_fl (List.mem_of_getElem? f0) (by rw [fA, z2]; simp)
            have rb : RB (· ∈ fl as2) H2 (L2.upd H2 b (.lst vs')) := by
              refine ⟨fun c o n h => by rw [upd_ne (fun (z : c = b) => n (by rw [z]; exact mb))]; exact h, fun c xs h => by rw [upd_ne (ne_of h e3 (by intro z; cases z))]; exact h, fun c o x h => by rw [upd_ne (ne_of h e3 (by intro z; cases z))]; exact h, fun c _ n => ?_⟩
              by_cases z : c = b
              · rw [z, upd_same]; exact fun q => nomatch q
              · rw [upd_ne z]; exact n
            have g : Go as2 as2 H2 (L2.upd H2 b (.lst vs')) := ⟨rb, fun _ _ h => h, fun _ h => .inl h⟩
            exact h3 _ (k v' _ as2 (g2.trans g) S3 (im_go g h2'))
          · rw [if_neg hp] at ed; cases ed
      · rw [if_neg hl] at ed; cases ed
    | _ => cases ed
end
section
variable {F : Fr} {S L : Type} {δ : Dl} {δn : S → Dl} {δl : L → Dl} {t2 : TS} {i : Nat} {Sh0 : Sh}
end
end UX
namespace UX
open PySem PySem.Spec PyProof.Rows L2 UY
open EL (Ex RB BOk Bn TK rListQ)
section
variable {G : Cxt} {rs : List Addr} {B : Bn} {H : Hp}
end
section
variable {F : Fr} {os : Os} {as : SA} {st : Sto} {γ : List (U × V)} {H : Hp} {σ : L2.St} {δ : Dl}
end
section
variable {F : Fr} {S L : Type} {δ : Dl} {wi : TI} {g : TG} {tb : TS} {wl : M (List U)} {δl : S → Dl} {δ2 : L → Dl}
end
end UX
namespace UX
open PySem PySem.Spec PyProof.Rows L2 UY
open EL (Ex RB BOk Bn TK)
section
variable {G : Cxt} {rs : List Addr} {B : Bn} {H : Hp}
end
section
variable {F : Fr}
end
section
variable {F : Fr}
end
section
variable {F : Fr} {δ : Dl} {i j l : Nat} {vs : List Nat}
end
end UX
namespace UY
open PySem PySem.Spec PyProof.Rows L2
section
variable {X : Cx}
end
end UY
namespace UX
open PySem PySem.Spec PyProof.Rows L2 UY
theorem TgOk.to {F : Fr} {g : TG} {vs : List Nat} {δ δ1 δ2 : Dl} {u : U} (h : TgOk F g vs δ u δ1) (e : δ1 = δ2) : TgOk F g vs δ u δ2 := e ▸ h
end UX
namespace SrtO
open PySem PyProof.Rows
section
variable {prog : Program} {w : World} {A : Around} {E : Value → Shared → Prop} {s : Shared}
end
end SrtO
namespace L2
open PySem PySem.Spec PyProof.Rows
section
variable {X : Cx}
end
end L2
namespace UX
open PySem PySem.Spec PyProof.Rows L2
open EL (Ex RB BOk Bn TK)
def RowsOkL (d : Nat) (L : List (List Int)) : Prop := 1 ≤ d ∧ ∀ ns ∈ L, ns.length = d ∧ TS.Bd B0 ns
instance (d : Nat) (L : List (List Int)) : Decidable (RowsOkL d L) := by unfold RowsOkL TS.Bd; infer_instance
section
variable {F : Fr}
end
end UX
namespace UX
open PySem PySem.Spec PyProof.Rows L2
end UX
namespace UX
open PySem PySem.Spec PyProof.Rows L2 UY
open EL (Ex RB BOk Bn TK rMulU rEqU)
section
variable {F : Fr}
end
section
variable {F : Fr} {S L : Type} {δ : Dl} {δn : S → Dl} {δl : L → Dl} {t2 : TS} {i : Nat} {Sh0 : Sh}
end
section
variable {F : Fr} {S L : Type} {δ : Dl} {i : Nat} {Sh0 : Sh} {te td tx : TE}
end
section
variable {F : Fr} {os : Os} {as : SA} {st : Sto} {γ : List (U × V)} {H : Hp} {σ : L2.St} {δ : Dl} {i : Nat} {A C : List Addr}
end
section
variable {F : Fr} {S L : Type} {δ : Dl} {δn : S → Dl} {δl : L → Dl} {t2 : TS} {i : Nat}
end
section
variable {F : Fr} {os : Os} {as : SA} {st : Sto} {γ : List (U × V)} {H : Hp} {σ : L2.St} {δ : Dl}
end
structure LSN (F : Fr) (s : Sh) (os : Os) (k0 : Nat) (D : Addr) (as : SA) (st : Sto) (γ : List (U × V)) (H : Hp) (σ : L2.St) (δ : Dl) (accU : List U) (A : List Addr) : Prop where
  S : SDo F ((k0, D :: A) :: os) as st γ H σ δ
  a : ∃ acc, H D = some (.lst acc) ∧ ownZ (fun _ => ownD F.G (rts as) (ban F ((k0, D :: A) :: os) as) s) 0 accU acc H A
section
variable {F : Fr} {os : Os} {as as' : SA} {st st' : Sto} {γ : List (U × V)} {H H' : Hp} {σ : L2.St} {δ : Dl} {k0 : Nat} {D : Addr} {accU : List U} {A : List Addr} {s : Sh}
theorem ownZ_go {s : Sh} {os : Os} {us : List U} {n : Nat} {vs : List V} {A : List Addr} (g : Go as as' H H') (h : ownZ (fun _ => ownD F.G (rts as) (ban F os as) s) n us vs H A) (k : ∀ a ∈ A, a ∉ fl as) (al : ∀ a ∈ A, H a ≠ none) : ownZ (fun _ => ownD F.G (rts as') (ban F os as') s) n us vs H' A :=
  ownZ_mono (fun n u v A1 hs ho => own_mono (fun _ _ h => im_go g h) (fun _ _ h => sqT_go g h) _ _ _ _ (fun a m => by
    cases e : H a with
    | none => exact absurd e (al a (hs a m))
    | some o => exact g.rb.keep a o (k a (hs a m)) e) ho) h
theorem LSN.go (l : LSN F s os k0 D as st γ H σ δ accU A) {σ' : L2.St} {δ' : Dl} (g : Go as as' H H') (S : SDo F ((k0, D :: A) :: os) as' st' γ H' σ' δ') : LSN F s os k0 D as' st' γ H' σ' δ' accU A := by
  obtain ⟨acc, e, h⟩ := l.a
  have nf : ∀ a ∈ D :: A, a ∉ fl as := fun a m q => (List.nodup_append.mp l.S.nd).2.2 a (List.mem_append_left _ m) a q rfl
  exact ⟨S, acc, g.rb.keep _ _ (nf D List.mem_cons_self) e, ownZ_go g h (fun a m => nf a (List.mem_cons_of_mem _ m)) fun a m => l.S.ok a (.inr (.inl (List.mem_append_left _ (List.mem_cons_of_mem _ m))))⟩
theorem LSN.push {k : Nat} {B : List Addr} (l : LSN F s os k0 D as st γ H σ δ accU A) (hk : δ.length ≤ k0) (hk1 : δ.length ≤ k) (hko : k0 ∉ os.map (·.1)) {u : U} {y : V} {as2 : SA} {st2 : Sto} {H2 : Hp} (g : Go as as2 H H2) (S2 : SDo F ((k, B) :: (k0, D :: A) :: os) as2 st2 γ H2 σ δ) (hB : ∀ a ∈ B, H a = none) (p : ownD F.G (rts as2) (ban F ((0, B) :: (k0, D :: A) :: os) as2) s u y H2 B) :
    ∃ acc, H2 D = some (.lst acc) ∧ acc.length = accU.length ∧ LSN F s os k0 D as2 st2 γ (upd H2 D (.lst (acc ++ [y]))) σ δ (accU ++ [u]) (A ++ B) := by
  obtain ⟨acc, e, h⟩ := l.a
  have nf : ∀ a ∈ D :: A, a ∉ fl as := fun a m q => (List.nodup_append.mp l.S.nd).2.2 a (List.mem_append_left _ m) a q rfl
  have al : ∀ a ∈ D :: A, H a ≠ none := fun a m => l.S.ok a (.inr (.inl (List.mem_append_left _ m)))
  have e2 : H2 D = some (.lst acc) := g.rb.keep _ _ (nf D List.mem_cons_self) e
  have h2 : ownZ (fun _ => ownD F.G (rts as2) (ban F ((k, B) :: (k0, D :: A) :: os) as2) s) 0 accU acc H2 A := by
    have h1 : ownZ (fun _ => ownD F.G (rts as) (ban F ((k, B) :: (k0, D :: A) :: os) as) s) 0 accU acc H A := ownZ_mono (fun n u v A1 hs ho => own_mono (fun _ _ z => im_sub (sub_cons hB) _ _ z) (fun _ _ z => z) _ _ _ _ (fun _ _ => rfl) ho) h
    exact ownZ_go (os := (k, B) :: (k0, D :: A) :: os) g h1 (fun a m => nf a (List.mem_cons_of_mem _ m)) fun a m => al a (List.mem_cons_of_mem _ m)
  have S3 := S2.merge (k := k0) hk hk1 hko
  have c : Chg F ((k0, (D :: A) ++ B) :: os) as2 H2 (upd H2 D (.lst (acc ++ [y]))) k0 ((D :: A) ++ B) ((D :: A) ++ B) D := chg_same List.mem_cons_self List.mem_cons_self S3 e2 (fun _ z => nomatch z) (fun _ _ z => nomatch z)
  have S4 := S3.mut c (x := none) (fun _ z => nomatch z)
  have so := setOs_same S3.ix (List.mem_cons_self (a := (k0, (D :: A) ++ B)) (l := os))
  rw [so, List.set_eq_of_length_le hk] at S4
  have bb : ∀ a, ban F ((k0, (D :: A) ++ B) :: os) as2 a → ban F ((k, B) :: (k0, D :: A) :: os) as2 a := fun a b => by
    rw [ban_cons, List.mem_append] at b
    rw [ban_cons, ban_cons]
    rcases b with (h | h) | h
    · exact .inr (.inl h)
    · exact .inl h
    · exact .inr (.inr h)
  have up : ∀ u v, im F.G (rts as2) (ban F ((k, B) :: (k0, D :: A) :: os) as2) u v H2 → im F.G (rts as2) (ban F ((k0, D :: (A ++ B)) :: os) as2) u v (upd H2 D (.lst (acc ++ [y]))) := fun u v h => by
    have h1 : im F.G (rts as2) (ban F ((k0, (D :: A) ++ B) :: os) as2) u v H2 := im_sub (fun a _ b => bb a b) _ _ h
    have := c.im h1
    rw [so] at this
    exact this
  have nd : ((D :: A) ++ B).Nodup := os_nodup _ (List.nodup_append.mp S3.nd).1 List.mem_cons_self
  have nD := (List.nodup_cons.mp (show (D :: (A ++ B)).Nodup from nd)).1
  have tt : ∀ c xs, H2 c = some (.tup xs) → (upd H2 D (.lst (acc ++ [y]))) c = some (.tup xs) := fun c xs h => by rw [upd_ne (fun e => by rw [e, e2] at h; cases h)]; exact h
  refine ⟨acc, e2, ownZ_len h, S4, acc ++ [y], upd_same, ?_⟩
  have hz := ownZ_mono (P' := fun _ => ownD F.G (rts as2) (ban F ((k0, D :: (A ++ B)) :: os) as2) s) (H' := upd H2 D (.lst (acc ++ [y]))) (fun n u v A1 hs ho => own_mono up tt _ _ _ _ (fun a m => upd_ne fun z => nD (z ▸ List.mem_append_left _ (hs a m))) ho) h2
  exact ownZ_snoc1 hz (own_mono up tt _ _ _ _ (fun a m => upd_ne fun z => nD (z ▸ List.mem_append_right _ m)) p)
end
section
variable {F : Fr} {δ : Dl} {wi : TI} {g : TG} {tt : TT} {te : TE} {vs : List Nat} {wl : M (List U)} {s : Sh}
end
section
variable {G : Cxt} {rs : List Addr} {B : Bn} {H : Hp}
end
section
variable {F : Fr} {δ : Dl} {te tk : TE}
end
mutual
def noL : U → Bool
  | .non => true
  | .bl _ => true
  | .int _ => true
  | .str _ => true
  | .top _ => true
  | .loc _ => true
  | .tup us => noLs us
  | _ => false
def noLs : List U → Bool
  | [] => true
  | u :: us => noL u && noLs us
end
section
variable {G : Cxt} {rs : List Addr} {B B' : Bn} {H : Hp}
mutual
theorem im_noL : ∀ (u : U) (v : V), noL u = true → im G rs B u v H → im G rs B' u v H
  | .non, _, _, h => h
  | .bl _, _, _, h => h
  | .int _, _, _, h => h
  | .str _, _, _, h => h
  | .top _, _, _, h => h
  | .loc _, _, _, h => h
  | .exc _, _, e, _ => by cases e
  | .exo _ _ _, _, e, _ => by cases e
  | .tup us, _, e, ⟨a, vs, e1, h, q⟩ => ⟨a, vs, e1, h, imAll_noL us vs e q⟩
  | .lst _, _, e, _ => by cases e
  | .dct _ _, _, e, _ => by cases e
  | .dcT _ _, _, e, _ => by cases e
  | .dcN _ _, _, e, _ => by cases e
  | .obj _ _ _, _, e, _ => by cases e
  | .frl _, _, e, _ => by cases e
theorem imAll_noL : ∀ (us : List U) (vs : List V), noLs us = true → imAll G rs B us vs H → imAll G rs B' us vs H
  | [], _, _, h => h
  | u :: us, _, e, ⟨v, r, ev, h1, h2⟩ => by
    have e' := Bool.and_eq_true_iff.mp (show (noL u && noLs us) = true from e)
    exact ⟨v, r, ev, im_noL u v e'.1 h1, imAll_noL us r e'.2 h2⟩
end
theorem leaf_noL {u : U} (h : noL u = true) : leafU u = true := by cases u <;> first | rfl | cases h
theorem leafs_noL : ∀ {us : List U}, noLs us = true → us.all leafU = true
  | [], _ => rfl
  | u :: us, e => by
    have e' := Bool.and_eq_true_iff.mp (show (noL u && noLs us) = true from e)
    exact Bool.and_eq_true_iff.mpr ⟨leaf_noL e'.1, leafs_noL e'.2⟩
def cellN : U → Bool
  | .lst us => noLs us
  | u => noL u
theorem ownC_noL {u : U} {v : V} {A : List Addr} (e : cellN u = true) (h : ownC G rs B u v H A) : ownC G rs B' u v H A := by
  cases u with
  | lst us =>
    have e : noLs us = true := e
    obtain ⟨a, vs, A', e1, e2, e3, z⟩ := (show ownF G rs B (.lst us) v H A from h)
    obtain ⟨zA, hv⟩ := (flat_ownFs (leafs_noL e)).mp z
    exact (show ownF G rs B' (.lst us) v H A from ⟨a, vs, A', e1, e2, e3, (flat_ownFs (leafs_noL e)).mpr ⟨zA, imAll_noL _ _ e hv⟩⟩)
  | obj _ _ _ => cases e
  | dct _ _ => cases e
  | dcT _ _ => cases e
  | dcN _ _ => cases e
  | frl _ => cases e
  | non => exact ⟨h.1, im_noL _ _ e h.2⟩
  | bl _ => exact ⟨h.1, im_noL _ _ e h.2⟩
  | int _ => exact ⟨h.1, im_noL _ _ e h.2⟩
  | str _ => exact ⟨h.1, im_noL _ _ e h.2⟩
  | tup _ => exact ⟨h.1, im_noL _ _ e h.2⟩
  | top _ => exact ⟨h.1, im_noL _ _ e h.2⟩
  | loc _ => exact ⟨h.1, im_noL _ _ e h.2⟩
  | exc _ => cases e
  | exo _ _ _ => cases e
theorem StOk.noL : ∀ {as : SA} {st : Sto}, st.all cellN = true → StOk G B rs as st H → StOk G B' rs as st H
  | [], [], _, _ => trivial
  | p :: as, u :: st, e, ⟨h1, h2⟩ => by
    have e' := Bool.and_eq_true_iff.mp (show (cellN u && st.all cellN) = true from e)
    exact ⟨ownC_noL e'.1 h1, StOk.noL e'.2 h2⟩
  | [], _ :: _, _, h => h.elim
  | _ :: _, [], _, h => h.elim
end
section
variable {F : Fr} {δ : Dl}
theorem im_goA {os : Os} {as as' : SA} {H H' : Hp} {A' : List Addr} {k : Nat} (g : Go as as' H H') (fr : ∀ a ∈ A', H a = none) {u : U} {v : V} (h : im F.G (rts as) (ban F os as) u v H) : im F.G (rts as') (ban F ((k, A') :: os) as') u v H' :=
  im_go g (im_sub (sub_cons fr) _ _ h)
theorem SDo.back {os : Os} {as as' : SA} {st st' : Sto} {γ : List (U × V)} {H H' : Hp} {σ : L2.St} {i k k0 : Nat} {A' : List Addr} {δ' : Dl} (S : SDo F os as st γ H σ δ) (g : Go as as' H H') (fr : ∀ a ∈ A', H a = none)
    (S2 : SDo F ((k0, A') :: os.filter fun q => decide (q.1 ≠ i)) as' st' γ H' σ δ') (cn : st'.all cellN = true) (hk : k ∉ os.map (·.1)) : SDo F ((k, A') :: os) as' st' γ H' σ δ := by
  have al : ∀ a ∈ flo os, H' a ≠ none := fun a m => g.alive (S.ok a (.inr (.inl m)))
  have nd2 := List.nodup_append.mp S2.nd
  have ndA : A'.Nodup := (List.nodup_append.mp (show (A' ++ flo _).Nodup from nd2.1)).1
  have dj : ∀ a ∈ flo os, a ∉ fl as' := fun a m q => by
    rcases g.new a q with z | z
    · exact (List.nodup_append.mp S.nd).2.2 a m a z rfl
    · exact S.ok a (.inr (.inl m)) z
  have djA : ∀ a ∈ A', a ∉ fl as' := fun a m q => nd2.2.2 a (List.mem_append_left _ m) a q rfl
  have djO : ∀ a ∈ A', a ∉ flo os := fun a m q => S.ok a (.inr (.inl q)) (fr a m)
  refine ⟨fun p m => im_goA g fr (S.gh p m), S.rel.trans g, fun a b => ?_, ?_, List.nodup_cons.mpr ⟨hk, S.ix⟩, fun a m => ?_, fun a z b => ?_, StOk.noL cn S2.sto, S.len, fun j s e => ?_⟩
  · rcases ban_cons.mp b with b | b | b | b
    · exact S2.ok a (.inr (.inl (List.mem_append_left _ b)))
    · exact g.alive (S.ok a (.inl b))
    · exact al a b
    · exact S2.ok a (.inr (.inr b))
  · show (A' ++ flo os ++ fl as').Nodup
    refine List.nodup_append.mpr ⟨List.nodup_append.mpr ⟨ndA, (List.nodup_append.mp S.nd).1, fun a m b mb e => djO a m (e ▸ mb)⟩, nd2.2.1, fun a m b mb e => ?_⟩
    subst e
    rcases List.mem_append.mp m with m | m
    · exact djA a m mb
    · exact dj a m mb
  · rcases List.mem_append.mp (show a ∈ A' ++ flo os from m) with m | m
    · exact S.rel.fresh (fr a m)
    · exact S.new a m
  · rcases z with z | z
    · rcases List.mem_append.mp (show a ∈ A' ++ flo os from z) with m | m
      · exact S.ok a (.inl b) (fr a m)
      · exact S.nb a (.inl m) b
    · rcases g.new a z with q | q
      · exact S.nb a (.inr q) b
      · exact S.ok a (.inl b) q
  · obtain ⟨v, h1, h2⟩ := S.at_ j s e
    refine ⟨v, h1, ?_⟩
    match s, h2 with
    | .im u, h2 => exact im_goA g fr h2
    | .raw _, h2 => exact h2
    | .own sh u, ⟨B, m, h2⟩ =>
      refine ⟨B, List.mem_cons_of_mem _ m, own_mono (fun _ _ h => im_goA g fr h) (fun _ _ h => sqT_go g h) _ _ _ _ (fun a z => ?_) h2⟩
      cases e : H a with
      | none => exact absurd e (S.ok a (.inr (.inl (mem_flo m z))))
      | some o => exact g.rb.keep a o (fun q => (List.nodup_append.mp S.nd).2.2 a (mem_flo m z) a q rfl) e
end
section
variable {F : Fr} {δ : Dl} {i : Nat} {s : Sh} {d : U} {ty : TE} {wk : M U}
end
section
open PySem.Calls PyProof.V
variable {prog : Program} {w : World} {K K' : Type} [DecidableEq K] [DecidableEq K'] {knd : HeapKind prog w K} {knb : KeyKind prog w K'} {A : Around} {E : Value → Shared → Prop} {s : Shared}
end
section
variable {F : Fr}
end
end UX
namespace UY
open PySem PySem.Spec PyProof.Rows L2
section
variable {X : Cx}
end
end UY
namespace UX
open PySem PySem.Spec PyProof.Rows L2 UY
open EL (Ex RB BOk Bn TK)
section
variable {F : Fr} {S L : Type} {δ : Dl} {δn : S → Dl} {δl : L → Dl} {t2 : TS} {i : Nat} {tx : TE}
end
end UX
namespace UY
open PySem PySem.Spec PyProof.Rows L2 UX
open EL (Ex RB BOk Bn TK)
section
variable {F : Fr} {δ : Dl} {ta tb : TE} {wa wb : M U}
end
end UY
namespace UY
open PySem PySem.Spec PyProof.Rows L2
end UY
namespace UX
open PySem PySem.Spec PyProof.Rows L2 UY
open EL (Ex RB BOk Bn TK)
section
variable {F : Fr} {os : Os} {as as' : SA} {st st' : Sto} {γ : List (U × V)} {H H' : Hp} {σ : L2.St} {δ : Dl} {d : Addr} {u0 : HO} {od : Obj}
end
section
variable {F : Fr} {S L : Type} {δ : Dl} {g : TG} {tb : TS} {td : TE} {wd : M U} {δ2 : L → Dl}
end
end UX
namespace UY
open PySem PySem.Spec PyProof.Rows L2 UX
open EL (Ex RB BOk Bn TK)
section
variable {X : Cx}
end
section
variable {F : Fr}
end
end UY
namespace UY
open PySem PySem.Spec PyProof.Rows L2 UX
open EL (Ex RB BOk Bn TK rSlU cut)
section
variable {X : Cx}
end
section
variable {F : Fr}
end
section
variable {F : Fr} {δ : Dl} {te : TE} {wa : M U}
end
end UY
namespace UX
open PySem PySem.Spec PyProof.Rows L2
open EL (Ex RB BOk Bn TK FnG okG)
def exU (c : Str) : U := .dct [.inr c] []
def exO (c f : Str) (u : U) : U := .dct [.inr c, .inr f] [u]
def unEx : U → Option U
  | .dct [.inr c] [] => some (.str c)
  | .dct [.inr c, .inr f] [u] => some (.exo c f u)
  | _ => none
def mkEx : U → U
  | .str c => exU c
  | .exo c f u => exO c f u
  | _ => .non
def erc : U → Str
  | .str c => c
  | .exo c _ _ => c
  | _ => ""
def kpt : U → U
  | .str c => .exc c
  | u => u
theorem im_ex {G : Cxt} {rs : List Addr} {B : Bn} {u e : U} {v : V} {H : Hp} (h : unEx u = some e) : ¬ im G rs B u v H := by
  unfold unEx at h
  split at h
  · rintro ⟨a, vs, _, _, _, l, _⟩
    exact nomatch l
  · rintro ⟨a, vs, _, _, _, l, _⟩
    exact nomatch l
  · cases h
def ErIm (G : Cxt) (rs : List Addr) (B : Bn) (H : Hp) : U → Value → Option Addr → Prop
  | .str c, cls, d => cls = .ref (G.at_ c) ∧ d = none
  | .exo c f u, cls, d => cls = .ref (G.at_ c) ∧ ∃ dd w, d = some dd ∧ ¬ B dd ∧ Rd H dd (.xd [(f, w)]) ∧ im G rs B u w H
  | _, _, _ => False
theorem erIm_un {G : Cxt} {rs : List Addr} {B : Bn} {H : Hp} {e : U} {cls : Value} {d : Option Addr} (h : ErIm G rs B H e cls d) : unEx (mkEx e) = some e := by
  cases e with
  | str c => rfl
  | exo c f u => rfl
  | _ => exact h.elim
theorem erIm_cls {G : Cxt} {rs : List Addr} {B : Bn} {H : Hp} {e : U} {cls : Value} {d : Option Addr} (h : ErIm G rs B H e cls d) : cls = .ref (G.at_ (erc e)) := by
  cases e with
  | str c => exact h.1
  | exo c f u => exact h.1
  | _ => exact h.elim
theorem erIm_sub {G : Cxt} {rs : List Addr} {B B' : Bn} {H : Hp} {e : U} {cls : Value} {d : Option Addr} (s : ∀ a, H a ≠ none → B' a → B a) (h : ErIm G rs B H e cls d) : ErIm G rs B' H e cls d := by
  cases e with
  | str c => exact h
  | exo c f u =>
    obtain ⟨h1, dd, w, h2, h3, h4, h5⟩ := h
    exact ⟨h1, dd, w, h2, fun b => h3 (s dd (rd_ne h4) b), h4, im_sub s _ _ h5⟩
  | _ => exact h.elim
def fnX (w : M (Out Unit Unit)) : M U := fun st => match w st with
  | some (.ok (.rt u), st1) => (match unEx u with
    | some e => some (.er e, st1)
    | none => some (.ok u, st1))
  | some (.ok (.nx _), st1) => some (.ok .non, st1)
  | _ => none
def callX (f : List U → M U) (wa : M (List U)) : M U := fun st => match wa st with
  | some (.ok us, st1) => f us st1
  | _ => none
def exB {α S L : Type} (w : M α) (k : α → M (Out S L)) : M (Out S L) := fun st => match w st with
  | some (.ok a, st1) => k a st1
  | some (.er e, st1) => some (.ok (.rt (mkEx e)), st1)
  | _ => none
structure RtE (F : Fr) (as : SA) (st : Sto) (H : Hp) (e : U) (cls : Value) (d : Option Addr) : Prop where
  rel : Go F.as0 as F.H0 H
  ok : BOk (ban F [] as) H
  nd : (fl as).Nodup
  nb : ∀ a ∈ fl as, ¬ F.B a
  sto : StOk F.G (ban F [] as) (rts as) as st H
  pay : ErIm F.G (rts as) (ban F [] as) H e cls d
section
variable {F : Fr} {os : Os} {as as' : SA} {st st' : Sto} {γ : List (U × V)} {H H' : Hp} {σ : L2.St} {δ : Dl}
theorem SDo.rtE {e : U} {cls : Value} {d : Option Addr} (S : SDo F os as st γ H σ δ) (p : ErIm F.G (rts as) (ban F os as) H e cls d) : RtE F as st H e cls d :=
  ⟨S.rel, fun a b => S.ok a (b.elim .inl fun b => b.elim (fun z => nomatch z) fun z => .inr (.inr z)), (List.nodup_append.mp S.nd).2.1, fun a m => S.nb a (.inr m), StOk.mono (fun _ _ h => im_nil h) (fun _ _ h => h) (fun _ _ => rfl) S.sto,
   erIm_sub (fun a _ b => b.elim .inl fun b => b.elim (fun z => nomatch z) fun z => .inr (.inr z)) p⟩
theorem SDo.leaveE {e : U} {cls : Value} {d : Option Addr} (S : SDo F os as st γ H σ δ) (r : RtE ⟨F.G, fun a => F.B a ∨ a ∈ flo os, H, as, noR⟩ as' st' H' e cls d) : SDo F os as' st' γ H' σ δ ∧ ErIm F.G (rts as') (ban F os as') H' e cls d := by
  have e : ∀ a, ban F os as' a → ban ⟨F.G, fun a => F.B a ∨ a ∈ flo os, H, as, noR⟩ [] as' a := by
    rintro a (h | h | h)
    · exact .inl (.inl h)
    · exact .inl (.inr h)
    · exact .inr (.inr h)
  exact ⟨S.go r.rel r.nd (StOk.mono (fun _ _ h => im_sub (fun a _ b => e a b) _ _ h) (fun _ _ h => h) (fun _ _ => rfl) r.sto) fun a m => r.ok a (.inr (.inr m)), erIm_sub (fun a _ b => e a b) r.pay⟩
end
def spX (G : Cxt) (f : List U → M U) : Sp := fun vs H Q E => ∃ (B : Bn) (as : SA) (st : Sto) (us : List U) (r : Res U) (st' : Sto),
  BOk (ban ⟨G, B, H, as, noR⟩ [] as) H ∧ (fl as).Nodup ∧ (∀ a ∈ fl as, ¬ B a) ∧ StOk G (ban ⟨G, B, H, as, noR⟩ [] as) (rts as) as st H ∧ imAll G (rts as) (ban ⟨G, B, H, as, noR⟩ [] as) us vs H ∧ f us st = some (r, st') ∧
  match r with
  | .ok u => ∀ as' v H', Rt ⟨G, B, H, as, noR⟩ as' st' H' u v → Q v H'
  | .er e => ∀ as' H' cls d, RtE ⟨G, B, H, as, noR⟩ as' st' H' e cls d → E cls d H'
def PostX (F : Fr) {S L : Type} (D : Ends) (W : WX) (γ : List (U × V)) (st : Sto) (δn : S → Dl) (δl : L → Dl) (δx : Dl) : Out S L → Prop
  | .nx s => ∀ os as σ H, SDo F os as st γ H σ (δn s) → D.nx σ H
  | .rt u => match unEx u with
    | some e => ∀ os as σ H cls d, SDo F os as st γ H σ δx → ErIm F.G (rts as) (ban F os as) H e cls d → W cls d σ H
    | none => ∀ as v H, Rt F as st H u v → D.rt v H
  | .bk l => ∀ os as σ H, SDo F os as st γ H σ (δl l) → D.bk σ H
  | .ct l => ∀ os as σ H, SDo F os as st γ H σ (δl l) → D.ct σ H
def BlkX (F : Fr) (W : WX) {S L : Type} (t : TS) (δ : Dl) (w : M (Out S L)) (δn : S → Dl) (δl : L → Dl) (δx : Dl) : Prop := ∀ D os as st γ σ H o st', SDo F os as st γ H σ δ → w st = some (.ok o, st') → PostX F D W γ st' δn δl δx o → t D σ H
def EvRs (F : Fr) (W : WX) (te : TE) (δ : Dl) (w : M U) : Prop := ∀ os as st γ σ H r st', SDo F os as st γ H σ δ → w st = some (r, st') → ∀ QQ : VK, (match r with
  | .ok a => ∀ v H' as', Go as as' H H' → SDo F os as' st' γ H' σ δ → im F.G (rts as') (ban F os as') a v H' → QQ v H'
  | .er e => ∀ H' as' cls d, Go as as' H H' → SDo F os as' st' γ H' σ δ → ErIm F.G (rts as') (ban F os as') H' e cls d → W cls d σ H') → te σ H QQ
theorem postX_er {F : Fr} {S L : Type} {D : Ends} {W : WX} {γ : List (U × V)} {st : Sto} {δn : S → Dl} {δl : L → Dl} {δx : Dl} {e : U} (P : PostX F D W γ st δn δl δx (.rt (mkEx e))) {os : Os} {as : SA} {σ : L2.St} {H : Hp} {cls : Value} {d : Option Addr} (q : SDo F os as st γ H σ δx) (p : ErIm F.G (rts as) (ban F os as) H e cls d) : W cls d σ H := by
  have P : (match unEx (mkEx e) with | some c => _ | none => _) := P
  rw [erIm_un p] at P
  exact P os as σ H cls d q p
section
variable {F : Fr} {W : WX} {S S1 L : Type} {δ δx : Dl} {te ta tb : TE} {tt : TT} {w wa wb : M U} {wt : M Bool} {t t1 t2 u1 : TS} {δn : S → Dl} {δ1 : S1 → Dl} {δl : L → Dl}
theorem Blk.x {wo : M (Out S L)} (h : Blk F t δ wo δn δl) : BlkX F W t δ wo δn δl δx := fun D os as st γ σ H o st' Q q P => h D os as st γ σ H o st' Q q (by
  cases o with
  | nx s => exact P
  | bk l => exact P
  | ct l => exact P
  | rt u =>
    intro as v H r
    cases e : unEx u with
    | none =>
      have P : (match unEx u with | some c => _ | none => _) := P
      rw [e] at P
      exact P as v H r
    | some c =>
      exact absurd r.im (im_ex e))
theorem blkx_seq {w1 : M (Out S1 L)} {w2 : S1 → M (Out S L)} (h1 : BlkX F W t1 δ w1 δ1 δl δx) (h2 : ∀ s, BlkX F W t2 (δ1 s) (w2 s) δn δl δx) : BlkX F W (tSeq t1 t2) δ (seqO w1 w2) δn δl δx := fun D os as st γ σ H o st' Q q P => by
  obtain ⟨o1, st1, q1, q⟩ := M.bind_inv q
  refine h1 _ os as st γ σ H o1 st1 Q q1 ?_
  cases o1 with
  | nx s => exact fun os2 as2 σ2 H2 S2 => h2 s D os2 as2 st1 γ σ2 H2 o st' S2 q P
  | rt u => cases q; exact P
  | bk l => cases q; exact P
  | ct l => cases q; exact P
theorem blkx_if {wo wu : M (Out S L)} (h : EvT F tt δ wt) (h1 : BlkX F W t1 δ wo δn δl δx) (h2 : BlkX F W t2 δ wu δn δl δx) : BlkX F W (tIfS tt t1 t2) δ (iteW wt wo wu) δn δl δx := fun D os as st γ σ H o st' Q q P => by
  obtain ⟨b, st1, qb, q⟩ := M.bind_inv q
  refine h os as st γ σ H b _ Q qb _ fun H1 as1 g1 S1 => ?_
  cases b with
  | true => exact h1 D os as1 st1 γ σ H1 o st' S1 q P
  | false => exact h2 D os as1 st1 γ σ H1 o st' S1 q P
theorem blkx_ret (h : EvRs F W te δ w) (hw : Weak δ δx) (hR : F.R = noR := by rfl) : BlkX F W (tRet te) δ (exB w fun u => .ret (.rt u) : M (Out S L)) δn δl δx := fun D os as st γ σ H o st' Q q P => by
  cases e : w st with
  | none => unfold exB at q; rw [e] at q; cases q
  | some p =>
    obtain ⟨r, st1⟩ := p
    refine h os as st γ σ H r st1 Q e _ ?_
    unfold exB at q
    rw [e] at q
    match r, q with
    | .ok a, q =>
      cases q
      intro v H1 as1 g1 S1 p
      cases e2 : unEx a with
      | none =>
        have P : (match unEx a with | some c => _ | none => _) := P
        rw [e2] at P
        exact P as1 v H1 (S1.rt (im_nil p) (by rw [hR]; trivial))
      | some c =>
        exact absurd p (im_ex e2)
    | .er e, q => cases q; exact fun H1 as1 cls d g1 S1 p => postX_er P (S1.weak hw) p
theorem blkx_expr {k : M (Out S L)} (h : EvRs F W te δ w) (hw : Weak δ δx) (h2 : BlkX F W t2 δ k δn δl δx) : BlkX F W (tSeq (tDrop te) t2) δ (exB w fun _ => k) δn δl δx := fun D os as st γ σ H o st' Q q P => by
  cases e : w st with
  | none => unfold exB at q; rw [e] at q; cases q
  | some p =>
    obtain ⟨r, st1⟩ := p
    refine h os as st γ σ H r st1 Q e _ ?_
    unfold exB at q
    rw [e] at q
    match r, q with
    | .ok a, q => exact fun v H1 as1 g1 S1 p => h2 D os as1 st1 γ _ H1 o st' S1 q P
    | .er e, q => cases q; exact fun H1 as1 cls d g1 S1 p => postX_er P (S1.weak hw) p
theorem evx_call {f : List U → M U} {ta : TA} {wa : M (List U)} (h : EvAW F ta δ wa) : EvRs F W (tCallS (spX F.G f) (WE W) ta) δ (callX f wa) := fun os as st γ σ H r st' S q QQ k => by
  cases e : wa st with
  | none => unfold callX at q; rw [e] at q; cases q
  | some p =>
    obtain ⟨r1, st1⟩ := p
    unfold callX at q
    rw [e] at q
    match r1, q with
    | .ok us, q =>
      refine h os as st γ σ H us st1 S e _ fun vs H1 as1 g1 S1 pv => ?_
      obtain ⟨ok, nb, eb⟩ := S1.enter
      refine ⟨fun a => F.B a ∨ a ∈ flo os, as1, st1, us, r, st', ok, (List.nodup_append.mp S1.nd).2.1, nb, StOk.mono (fun _ _ h => im_sub (fun a _ b => (eb a).mp b) _ _ h) (fun _ _ h => h) (fun _ _ => rfl) S1.sto, imAll_sub (fun a _ b => (eb a).mp b) _ _ pv, q, ?_⟩
      match r, k with
      | .ok c, k =>
        intro as' v H' r
        obtain ⟨S2, p⟩ := S1.leave r
        exact k v H' as' (g1.trans r.rel) S2 p
      | .er e, k => exact fun as' H' cls d r => k H' as' cls d (g1.trans r.rel) (S1.leaveE r).1 (S1.leaveE r).2
end
section
variable {P : Program} {w : World} {K : PySem.W.Frag} {mg : Str → Option Value} {bs : Heap} {x qu : Str} {pa : Arguments} {bo : List Stmt} {sc : Scope} {dv : List V} {kw : List (Str × V)} {f : Addr} {fd : FuncData}
end
section
variable {X : Cx} {CX : CXT} {k : Nat} {f : Addr} {fd : FuncData} {ps : List Str} {sp : Sp} {E : L2.St → XK} {x : Str} {p pos : Pos} {e : Expr} {es : List Expr} {t : TA}
theorem pmk_own0 {C : Addr} {bmB : List Value} {B newId initId : String} (F : ExcBaseFacts B newId initId bmB) (q : PySem.W.excIn X.K C bmB newId = true) (gC : X.mg x = some (.ref C))
    (kC : PySem.W.keepIn X.K (.ref C) = true) (r : Raises X (.ref C)) (hg : Gl X x) (hdb : (x == ("__debug__" : Str)) = false := by decide) :
    PMk X (.Call (.Name x p) [] [] pos) (fun _ H Q => Q (.ref C) none H) := by
  intro pins s σ H Q I h
  refine wpAny_Call_Name_kw (ld_glob I hg gC ?_ hdb)
  refine PySem.W.callWith_K0 I.kIn kC ?_
  show wpAny _ _ (call (.ref C) []) _ _ _
  obtain ⟨bm, N, nm, qn, bs, hdct, sn, sub, ab, col, dd, k0, k1, k2, k3, k5, mN, hC, hN, hni, T⟩ := exc_obj I.kIn q
  refine wpAny_call_exc_subT F T hC hN hni (fun h' e hm => ?_) (Nat.zero_le _)
  exact mk_of I hm r h (I.hok.gone hm.new)
end
section
variable {F : Fr} {S L : Type} {δ δx : Dl} {δn : S → Dl} {δl : L → Dl}
end
end UX
namespace L2
open PySem PySem.Spec PyProof.Rows
section
variable {X : Cx} {pins : List (Addr × Obj)} {σ : L2.St} {H : Hp} {s : Shared} {a C : Addr} {oe : Obj} {vs : Array Value}
theorem Inv.adopt (I : Inv X pins σ H s) (hex : X.ex = []) (n0 : X.s_0.heap.get? a = none) (na : H a = none) (ha : s.heap.get? a = some oe) {d : Option Addr} (hz : oe.cls = .ref C ∧ oe.dict = d) (hd : oe.data = .fields vs) (nL : a ≠ X.env.locals) (nP : ∀ p ∈ X.pn ++ pins, p.1 ≠ a) :
    Inv X pins σ (upd H a (UX.ExKo C a d)) s := by
  have ne0 : ∀ b o, X.s_0.heap.get? b = some o → b ≠ a := fun b o e z => by rw [z, n0] at e; cases e
  have neH : ∀ b u, H b = some u → b ≠ a := fun b u e z => by rw [z, na] at e; cases e
  refine ⟨I.ok, I.os, I.bare, ⟨I.base.keep, I.base.slot, fun b o e n hx => ?_, I.base.there, fun b xs e => ?_, fun b o u e => ?_, fun b ps e => ?_⟩, I.loc, I.cell, ?_, fun x c e => ?_, fun p hp => ?_, ?_, I.len⟩
  · rw [upd_ne (ne0 b o e)]; exact I.base.free b o e n hx
  · have q := I.base.tups b xs e
    rw [upd_ne (neH b _ q)]; exact q
  · have q := I.base.frzs b o u e
    rw [upd_ne (neH b _ q)]; exact q
  · obtain ⟨m, q⟩ := I.base.tbls b ps e
    exact ⟨m, by rw [upd_ne (neH b _ q)]; exact q⟩
  · rw [upd_ne (Ne.symm nL)]; exact I.free
  · have : c ≠ a := fun z => by
      obtain ⟨v, o, ho, hc⟩ := I.cell x c e
      rw [z, ha] at ho
      cases ho
      rw [hd] at hc
      cases hc
    rw [upd_ne this]; exact I.freeC x c e
  · obtain ⟨e, n, ne, nf, d⟩ := I.pin p hp
    exact ⟨e, by rw [upd_ne (nP p hp)]; exact n, ne, nf, d⟩
  · cases d with
    | none => exact I.hok.laidN (fun _ _ q => q) na ⟨⟨oe, vs, ha, hz, hd⟩, ⟨oe, ha⟩, fun _ _ ⟨o, v, q, r⟩ k => ⟨o, v, k o q, r⟩⟩
    | some dd => exact I.hok.laidN (fun _ _ q => q) na ⟨⟨oe, vs, ha, hz, hd⟩, ⟨oe, ha⟩, fun _ _ ⟨o, v, q, r⟩ k => ⟨o, v, k o q, r⟩⟩
end
def wKeep (K : PySem.W.Frag) (c : Value) (i j : Nat) (Wout : WX) (D : Ends) : WX := fun cls d σ H =>
  ∃ b, PySem.W.exmOne K cls c = some b ∧ (b = true → ∃ C, cls = .ref C ∧ ∀ a, H a = none → D.nx ((σ.set j (some (.ref a))).set i none) (upd H a (UX.ExKo C a d))) ∧ (b = false → Wout cls d σ H)
section
variable {X : Cx} {x n y : Str} {c : Value} {i j : Nat} {body : List Stmt} {np pos pos' py pn' pa : Pos} {tb : WX → TS} {Wout : WX}
theorem ps_try_keep (hs : X.stack = X.env :: X.outer) (hf : X.env.frame = some X.env.locals) (hex : X.ex = []) (hN : X.N.Nodup) (hi : X.N[i]? = some n) (hln : X.env.kindOf n = some .local) (hj : X.N[j]? = some y) (hlj : X.env.kindOf y = some .local) (hij : i ≠ j) (hdn : (n == ("__debug__" : Str)) = false) (hcn : (n == ("__classdict__" : Str)) = false) (hc : Names X x c) (tk : Takes X Wout)
    (hb : ∀ (W : WX) (pn : List (Addr × Obj)) (xe : Value → Shared → Prop), Takes (X.tr pn xe) W → PassesOwn (model X.prog X.w) X.A X.env xe → PSs (X.tr pn xe) body (tb W)) :
    PS X (.Try body [.ExceptHandler (some (.Name x np)) (some n) [.Assign [.Name y py] (.Name n pn') pa] pos'] [] [] pos) (fun D σ H => tb (wKeep X.K c i j Wout D) D σ H) := by
  refine ⟨fun pins s σ H D I h => ?_⟩
  have ok := I.ok
  have hfr : X.A.frames = some (X.env :: X.outer) := by rw [ok.frames, hs]
  have hloc : Loc X.env.scope n := .inl hln
  have hlocj : Loc X.env.scope y := .inl hlj
  refine wpAny_Try_except ?_
  refine wpAny_mono ((hb (wKeep X.K c i j Wout D) (X.pn ++ pins) (fun e s₁ => wpAny (model X.prog X.w) X.A (noteFrame e X.env) (fun _ s₂ => wpAny (model X.prog X.w) X.A (setFlight e none) (fun _ s₃ =>
    wpAny (model X.prog X.w) X.A (handleBy e X.env [.ExceptHandler (some (.Name x np)) (some n) [.Assign [.Name y py] (.Name n pn') pa] pos']) (SP X pins D) X.xe s₃) X.xe s₂) X.xe s₁) (fun u s' xx => ?_) PassesOwn.looking).run [] s σ H D (I.toTry _) h) (fun f s1 hsp => ?_) (fun e s1 he => he)
  · -- the catch
    obtain ⟨a, B, sI, pins', σ', H', cls, d, rfl, J', nb, up, sky, na, os, ag, b, hb1, hyes, hno⟩ := xx
    have J : Inv X pins σ' H' sI := J'.ofTry ok
    have sky' : Sky B (X.env :: X.outer) a (Zc cls d) X.env.locals s'.heap := by rw [← hs]; exact sky
    show wpAny (model X.prog X.w) X.A (noteFrame (.ref a) X.env) _ _ _
    refine Sky.land Zc.steady hfr hf sky' fun h3 fl3 up3 => ?_
    have J3 : Inv X pins σ' H' { s' with heap := h3 } := J.landed nb fl3.1 (up.trans up3) os ag
    obtain ⟨oe3, vs3, he3, hz3, hd3⟩ := fl3.there
    have notFr : ∀ {h : Heap} {o : Obj} {vs : Array Value}, h.FunFrames B (X.env :: X.outer) → h.get? a = some o → o.data = .fields vs → a ∉ frs (X.env :: X.outer) := fun {h o vs} ff e dd hm => by
      obtain ⟨_, o', e', hnf⟩ := ff.mem hm
      rw [e] at e'; cases e'
      exact hnf _ dd
    have nfr := notFr fl3.2.2.1 he3 hd3
    have nL : a ≠ X.env.locals := fun z => nfr (List.mem_filterMap.mpr ⟨X.env, List.mem_cons_self, by rw [hf, z]⟩)
    have nF : a ∉ X.fs := fun hm => by
      obtain ⟨e, he, q⟩ := List.mem_filterMap.mp hm
      exact nfr (List.mem_filterMap.mpr ⟨e, List.mem_cons_of_mem _ he, q⟩)
    -- the error is none of what was there
    have nI : sI.heap.get? a = none := by
      cases e : sI.heap.get? a with
      | none => rfl
      | some o =>
        have z := nb a o e (by rw [hs]; exact nfr)
        rw [fl3.2.1] at z
        cases z
    have n0 : X.s_0.heap.get? a = none := by
      cases e : X.s_0.heap.get? a with
      | none => rfl
      | some o =>
        obtain ⟨o', z⟩ := J.base.there a o e (by rw [hex]; exact fun z => nomatch z)
        rw [nI] at z
        cases z
    have nP : ∀ p ∈ X.pn ++ pins, p.1 ≠ a := fun p hp z => by
      have q := (J.pin p hp).1
      rw [z, nI] at q
      cases q
    have S3 := J3.suite he3 hd3 na nL nF
    refine wpAny_handleBy_cons (codeAny_handlers_test ?_) (by intro q; cases q)
    have LT : PySem.W.Looks (model X.prog X.w) h3 (typeOf (.ref a)) cls := fun A Q E s k q => wpAny_typeOf_ref (k _ _ he3) (by rw [hz3.1]; exact q)
    have LM := PySem.W.exm_one (M := model X.prog X.w) (J3.kIn) LT hb1
    have test : ∀ {Q : Value → Shared → Prop} {E : Value → Shared → Prop}, Q c { s' with heap := h3 } → wpAny (model X.prog X.w) (X.A.mark (some (.ref a))) (eval (.Name x np) X.env) Q E { s' with heap := h3 } := fun {Q E} q => by
      obtain ⟨hg, hdbg, hm | ⟨hm, hv, hnn⟩⟩ := hc
      · exact ld_glob (X := X.suite a ((a, oe3) :: (X.pn ++ pins))) S3 hg hm q hdbg
      · exact ld_blt (X := X.suite a ((a, oe3) :: (X.pn ++ pins))) S3 hg hm hv q hnn hdbg
    refine test (LM.here ?_)
    cases b with
    | true =>
      obtain ⟨C, ec, hy2⟩ := hyes rfl
      subst ec
      refine codeAny_handlers_suite_as ?_
      refine HandSPX.lands_againZ fl3 fun h4 fl4 up4 => ?_
      have J4 : Inv X pins σ' H' { s' with heap := h4 } := J.landed nb fl4.1 ((up.trans up3).trans up4) os ag
      obtain ⟨oe4, vs4, he4, hz4, hd4⟩ := fl4.there
      have S4 := J4.suite he4 hd4 na nL nF
      refine store_ok (X := X.suite a ((a, oe4) :: (X.pn ++ pins))) (v := .ref a) S4 hN hi hloc rfl (fun s5 S5 => ?_) (.inr hln)
      have hsu : PSs (X.suite a ((a, oe4) :: (X.pn ++ pins))) [.Assign [.Name y py] (.Name n pn') pa] (tAsg (tVar i) (gName j)) := pss_one (ps_set (X := X.suite a ((a, oe4) :: (X.pn ++ pins))) (i := j) hN hj hlocj (pe_var hi (.inl hln) hdn hcn) rfl (.inr hlj))
      refine wpAny_mono (hsu.run [] s5 _ H' ⟨fun σ6 H6 => σ6 = (σ'.set i (some (.ref a))).set j (some (.ref a)) ∧ H6 = H', fun _ _ => False, fun _ _ => False, fun _ _ => False⟩ S5 ⟨.ref a, ?_, rfl, rfl⟩) (fun f s6 hsp => ?_) (fun _ _ z => False.elim z)
      · have hlt : i < σ'.length := by
          rw [J.len]
          exact (List.getElem?_eq_some_iff.mp hi).1
        rw [List.getElem?_set_self hlt]
      · cases f with
        | next =>
          obtain ⟨σ6, H6, S6, rfl, rfl⟩ := hsp
          have ha6 : s6.heap.get? a = some oe4 := (S6.pin (a, oe4) (List.mem_append.mpr (.inl List.mem_cons_self))).1
          have K6 := (S6.unsuite ok).adopt hex n0 na ha6 hz4 hd4 nL nP
          refine gone_ok K6 hN hi hln fun s7 J7 => ⟨_, _, J7, ?_⟩
          rw [List.set_comm _ _ hij, List.set_set]
          exact hy2 a na
        | brk => obtain ⟨_, _, _, z⟩ := hsp; cases z
        | cont => obtain ⟨_, _, _, z⟩ := hsp; cases z
        | ret u => obtain ⟨_, _, _, _, _, z⟩ := hsp; cases z
    | false =>
      show wpAny _ X.A (handleBy (.ref a) X.env []) _ _ _
      refine wpAny_handleBy_nil ?_
      obtain ⟨k1, k2, k3, oe, vs, T, oT, ts', he, hz, hd, h1, hr⟩ := id fl3
      unfold PySem.passOn
      refine wpAny_bind (wpAny_field he hd h1 ?_)
      rw [if_neg (show ¬ ((Value.ref T == Value.none) = true) from by simp)]
      have fin : wpAny (model X.prog X.w) X.A (setFlight (.ref a) X.env.frame) (fun _ s4 => wpAny (model X.prog X.w) X.A (throw (.ref a) : Sem Flow) (SP X pins D) X.xe s4) X.xe { s' with heap := h3 } := by
        rw [hf]
        refine HandSPX.setFlight_upZ fl3 fun h4 hh4 up4 => wpAny_throw (tk _ _ ?_)
        exact ⟨a, B, sI, pins, σ', H', cls, d, rfl, J, nb, (up.trans up3).trans up4, .inr (.inr (by rw [hs]; exact hh4)), na, os, ag, hno rfl⟩
      first
        | exact wpAny_bind (wpAny_pure (wpAny_bind fin))
        | exact wpAny_bind fin
  · cases f with
    | next =>
      obtain ⟨σ', H', J', q⟩ := hsp
      exact wpAny_execs_nil ⟨σ', H', J'.ofTry ok, q⟩
    | brk =>
      obtain ⟨σ', H', J', q⟩ := hsp
      exact ⟨σ', H', J'.ofTry ok, q⟩
    | cont =>
      obtain ⟨σ', H', J', q⟩ := hsp
      exact ⟨σ', H', J'.ofTry ok, q⟩
    | ret u =>
      obtain ⟨v, σ', H', J', r, q⟩ := hsp
      exact ⟨v, σ', H', J'.ofTry ok, r, q⟩
end
end L2
namespace UX
section
open PySem PySem.Spec PySem.W PySem.Calls PyProof.Rows
variable {prog : Program} {w : World} {A : Around} {E : Value → Shared → Prop} {s : Shared} {K : Frag} {x D : Addr} {ox : Obj} {od : Option Obj}
theorem cls_find (C : L2.ExcC K D) : findObj K D od "__class__" = some (.bind (.builtin "getset_descriptor.__get__") (.builtin "object.__class__")) := by
  obtain ⟨c0, e0, _⟩ := any_some C.hd
  simp [findObj, e0, C.ha, C.hn, C.ht]
theorem cls_ask {Q : Option Value → Shared → Prop} (C : L2.ExcC K D) (X : K.In s.heap) (I : InstAt s.heap x ox D od) (q : Q (some (.ref D)) { s with toks := s.toks + 1 }) : wpAny (model prog w) A (getAttr? (.ref x) "__class__") Q E s := by
  obtain ⟨h0, g0, d0, t0, o0⟩ := s
  have ty := I.type (M := model prog w); have ga := looks_findIn (M := model prog w) X C.hg; have gt := looks_findIn (M := model prog w) X C.hk
  have fd := looks_find (M := model prog w) X I (cls_find C)
  have sb : Looks (model prog w) h0 (isInstance (.ref x) (.type "BaseException")) true := by exact ty.andThen (looks_subIn X C.hs)
  have n2 : (Value.builtin "BaseException.__getattribute__" == Value.builtin "object.__getattribute__") = false := by decide +kernel
  have n1 : (onTheHeap (Value.ref D) && Value.builtin "BaseException.__getattribute__" == Value.builtin "object.__getattribute__") = false := by rw [n2, Bool.and_false]
  unfold getAttr? getAttrBy? getAttrBy; refine wpAny_bind (wpAny_mkText (wpAny_bind (wpAny_attempt (wpAny_holding (wpAny_bind (ty.at (wpAny_bind (ga.at ?_)))))))); show wpAny _ _ (if (onTheHeap (Value.ref D) && Value.builtin "BaseException.__getattribute__" == Value.builtin "object.__getattribute__") = true then _ else _) _ _ _
  rw [n1, if_neg Bool.false_ne_true]; unfold getAttrByItsOwn hookBefore; refine wpAny_bind ?_; rw [if_pos (show onTheHeap (Value.ref D) = true from rfl)]; refine gt.at ?_; refine wpAny_bind (wpAny_attempt (wpAny_holding ?_))
  have n0 : (false && onTheHeap (Value.builtin "BaseException.__getattribute__")) = false := Bool.false_and _
  unfold callGetattribute; rw [n0, if_neg Bool.false_ne_true]; unfold boundAndCalled; rw [PySem.F.excAttr_ValueError.ga.bind (.ref x)]; refine wpAny_bind (wpAny_pure ?_); show wpAny _ _ (call (.builtin "BaseException.__getattribute__") [.ref x, .str "__class__" t0]) _ _ _
  refine wpAny_call (codeAny_call_builtin PySem.F.excAttr_ValueError.ga.plain PySem.F.entry_bexc_ga (@check_slot (model prog w) _ _ ⟨h0, g0, d0, t0 + 1, o0⟩ "BaseException.__getattribute__" "BaseException" "__getattribute__" (.ref x) [.str "__class__" t0] [] _ (by decide +kernel) (by decide +kernel) sb (PySem.F.args_bexc_ga (.ref x) (.str "__class__" t0)) ?_))
  unfold Builtin.«object.__getattribute__»; refine wpAny_bind (wpAny_of_eq (a := ((Value.ref x : Value), [Value.str "__class__" t0])) (by first | rfl | (simp only [slotArgs]; rfl)) ?_); refine wpAny_bind (wpAny_pure (wpAny_bind (ty.at (wpAny_bind (fd.at ?_)))))
  show wpAny _ _ (holding [Value.builtin "object.__class__"] (call (.builtin "getset_descriptor.__get__") [.builtin "object.__class__", .ref x, .ref D]) >>= ret) _ _ _
  refine wpAny_bind (wpAny_holding (wpAny_call (class_get (s := ⟨h0, g0, d0, t0 + 1, o0⟩) (ox := ox) (od := od) X I C.hm (wpAny_pure ?_)))); show wpAny _ _ (handedOut (.ref D)) _ _ _
  rw [handedOut_of (v := .ref D) rfl]; first | exact wpAny_pure (wpAny_pure q) | exact wpAny_pure q | exact wpAny_pure (wpAny_bind (wpAny_pure (wpAny_pure q)))
theorem kitx_err (C : L2.ExcC K D) : KitX K (.ref x) (.ref D) (fun h => InstAt h x ox D od) := by
  have cl : ∃ c1 d1 e1 sl1, K.lookup D = some ⟨c1, d1, .cls e1, sl1⟩ := by
    obtain ⟨c0, e0, _⟩ := any_some C.hd
    unfold clsIn at e0
    split at e0
    · rename_i c1 d1 e1 sl1 ho
      exact ⟨c1, d1, e1, sl1, ho⟩
    · cases e0
  obtain ⟨c1, d1, e1, sl1, ho⟩ := cl
  refine ⟨fun _ _ _ I => I.type, fun _ _ X _ => ?_, fun h tp dd its n sl X ht => ?_, fun X I k => cls_ask C X I k⟩
  · intro A' Q' E' s' k q; unfold isType loadHead; exact wpAny_bind (wpAny_loadPart (k _ _ (X _ _ ho)) (wpAny_pure q))
  · refine Bool.eq_false_iff.mpr fun z => ?_
    have e : D = tp := Value.ref.inj (beq_iff_eq.mp z)
    rw [← e, X _ _ ho] at ht
    cases ht
end
end UX
namespace UX
open PySem PySem.Spec PyProof.Rows L2
open EL (Ex RB BOk Bn TK)
def ClK (c : V) (cv : Value) : Prop := ∀ u, RelV c u → u = cv
theorem clK_ref {a : Addr} : ClK (.ref a) (.ref a) := fun u h => h
theorem clK_ty {T : String} : ClK (.ty T) (.type T) := fun u h => h
def ExHd (H : Hp) (a D : Addr) : Prop := Rd H a (ExK D a) ∨ ∃ dd fs, Rd H a (ExKD D a dd) ∧ Rd H dd (.xd fs)
def rIsK (K : PySem.W.Frag) : List V → Hp → VK → Prop := fun xs H Q => ∃ (a D : Addr) (c : V) (cv : Value) (b : Bool), xs = [.ref a, c] ∧ ExHd H a D ∧ ExcC K D ∧ ClK c cv ∧ PySem.W.kitOne K (.ref D) cv = some b ∧ Q (.bl b) H
def rIsKT (K : PySem.W.Frag) : List V → Hp → VK → Prop := fun xs H Q => ∃ (a D tp : Addr) (cs : List V) (cvs : List Value) (b : Bool), xs = [.ref a, .ref tp] ∧ ExHd H a D ∧ ExcC K D ∧ SqT K H tp cs ∧ (∀ us, Vals cs us → us = cvs) ∧ PySem.W.kitAny K (.ref D) cvs = some b ∧ Q (.bl b) H
section
variable {X : Cx} {K : PySem.W.Frag}
theorem inst_k {pins : List (Addr × Obj)} {σ : L2.St} {H : Hp} {s : Shared} {a D : Addr} (I : Inv X pins σ H s) (h : ExHd H a D) : ∃ oe od, PySem.W.InstAt s.heap a oe D od := by
  rcases h with h | ⟨dd, fs, h, hx⟩
  · have key : ∃ (oe : Obj) (vs : Array Value), s.heap.get? a = some oe ∧ (oe.cls = .ref D ∧ oe.dict = none) ∧ oe.data = .fields vs := by
      rcases h with h | ⟨o, h⟩
      · exact (I.hok a _ h).1
      · exact (I.hok a _ h).2.1
    obtain ⟨oe, vs, he, hz, hd⟩ := key
    obtain ⟨oc, od, oda, osl⟩ := oe
    obtain ⟨h1, h2⟩ := hz
    dsimp only at h1 h2 hd
    subst h1 h2 hd
    exact ⟨_, none, he, rfl, rfl, trivial⟩
  · have key : ∃ (oe : Obj) (vs : Array Value), s.heap.get? a = some oe ∧ (oe.cls = .ref D ∧ oe.dict = some dd) ∧ oe.data = .fields vs := by
      rcases h with h | ⟨o, h⟩
      · exact (I.hok a _ h).1
      · exact (I.hok a _ h).2.1
    have kx : ∃ mA, s.heap.Ns1 dd mA ∧ ∀ f, RelO (fs.lookup f) (mA f) := by
      rcases hx with hx | ⟨o, hx⟩
      · exact I.hok dd _ hx
      · exact (I.hok dd _ hx).2
    obtain ⟨oe, vs, he, hz, hd⟩ := key
    obtain ⟨mA, hns, _⟩ := kx
    obtain ⟨od, ho, _⟩ := lookIn_ns hns
    obtain ⟨oc, oo, oda, osl⟩ := oe
    obtain ⟨h1, h2⟩ := hz
    dsimp only at h1 h2 hd
    subst h1 h2 hd
    exact ⟨_, some od, he, rfl, rfl, ho⟩
theorem call_isK (hK : X.K = K := by rfl) : CallR X (.builtin "isinstance") (rIsK K) := by
  subst hK
  intro pins s σ H xs us Q I r h
  obtain ⟨a, D, c, cv, b, rfl, ha, C, hcv, e, q⟩ := h
  cases r with
  | cons rx rr =>
    cases rr with
    | cons rt rr =>
      cases rr
      cases rx
      have ec := hcv _ rt
      subst ec
      obtain ⟨oe, od, J⟩ := inst_k I ha
      exact PySem.W.kia_one (kitx_err C) I.kIn J e (fun z => nomatch z) fun tk => ⟨.bl b, H, I.kept (t' := tk) fun _ _ z => z, rfl, q⟩
theorem call_isKT (hK : X.K = K := by rfl) : CallR X (.builtin "isinstance") (rIsKT K) := by
  subst hK
  intro pins s σ H xs us Q I r h
  obtain ⟨a, D, tp, cs, cvs, b, rfl, ha, C, hT, hcv, e, q⟩ := h
  cases r with
  | cons rx rr =>
    cases rr with
    | cons rt rr =>
      cases rr
      cases rx
      cases rt
      obtain ⟨its, rv, ⟨⟨cl, dd, dat, sl⟩, at_, ec, n, ed⟩, _⟩ := I.tuple hT
      dsimp only at ec ed
      subst ec ed
      have := hcv _ rv
      subst this
      obtain ⟨oe, od, J⟩ := inst_k I ha
      exact PySem.W.kia_tup (kitx_err C) I.kIn J at_ e (fun z => nomatch z) fun tk => ⟨.bl b, H, I.kept (t' := tk) fun _ _ z => z, rfl, q⟩
end
def isKU (tab : Str → Option Bool) : U → Option U
  | .exc c => (tab c).map .bl
  | .exo c _ _ => (tab c).map .bl
  | _ => none
section
variable {F : Fr} {δ : Dl} {ta tl : TE} {wa : M U}
theorem ev_isK {tab : Str → Option Bool} {c0 : V} {cv : Value} (hC : ∀ c b, tab c = some b → ExcC F.G.K (F.G.at_ c) ∧ PySem.W.kitOne F.G.K (.ref (F.G.at_ c)) cv = some b) (hv : ClK c0 cv) (ha : EvR F ta δ wa) : EvW F (tCB (rIsK F.G.K) (tCons ta (tCons (tC c0) tNil))) δ (op1 (isKU tab) wa) := fun os as st γ σ H c0' st' S q QQ k => by
  obtain ⟨a, st1, qa, q⟩ := M.bind_inv q
  obtain ⟨e, rfl⟩ := M.o_inv q
  refine ha os as st γ σ H a _ S qa _ fun x H1 as1 g1 S1 px => ?_
  have key : ∃ c b a, tab c = some b ∧ ExHd H1 a (F.G.at_ c) ∧ x = .ref a ∧ c0' = .bl b := by
    cases a with
    | exc c =>
      obtain ⟨b, eb, rfl⟩ := Option.map_eq_some_iff.mp e
      obtain ⟨a, rfl, _, hr⟩ := px
      exact ⟨c, b, a, eb, .inl hr, rfl, rfl⟩
    | exo c f u =>
      obtain ⟨b, eb, rfl⟩ := Option.map_eq_some_iff.mp e
      obtain ⟨a, dd, w, rfl, _, _, hr, hx, _⟩ := px
      exact ⟨c, b, a, eb, .inr ⟨dd, _, hr, hx⟩, rfl, rfl⟩
    | _ => cases e
  obtain ⟨c, b, a, eb, hr, rfl, rfl⟩ := key
  obtain ⟨C, hk⟩ := hC c b eb
  exact ⟨a, F.G.at_ c, c0, cv, b, rfl, hr, C, hv, hk, k _ H1 as1 g1 S1 rfl⟩
def ClKs : List V → List Value → Prop
  | [], [] => True
  | c :: cs, v :: vs => ClK c v ∧ ClKs cs vs
  | _, _ => False
theorem clKs_vals : ∀ {cs : List V} {vs us : List Value}, ClKs cs vs → Vals cs us → us = vs
  | [], [], _, _, r => by cases r; rfl
  | c :: cs, v :: vs, _, h, r => by
    cases r with
    | cons r1 r2 => rw [h.1 _ r1, clKs_vals h.2 r2]
  | [], _ :: _, _, h, _ => h.elim
  | _ :: _, [], _, h, _ => h.elim
def tCs : List V → TA
  | [] => tNil
  | c :: cs => tCons (tC c) (tCs cs)
theorem tCs_at {σ : L2.St} {H : Hp} : ∀ {cs : List V} {Q : List V → Hp → Prop}, Q cs H → tCs cs σ H Q
  | [], _, h => h
  | c :: cs, Q, h => tCs_at (cs := cs) (Q := fun xs H => Q (c :: xs) H) h
theorem ev_isKT {tab : Str → Option Bool} {cs : List V} {cvs : List Value} (hC : ∀ c b, tab c = some b → ExcC F.G.K (F.G.at_ c) ∧ PySem.W.kitAny F.G.K (.ref (F.G.at_ c)) cvs = some b) (hv : ClKs cs cvs) (hl : cs.length ≤ sizeLine) (ha : EvR F ta δ wa) : EvW F (tCB (rIsKT F.G.K) (tCons ta (tCons (tTup (tCs cs)) tNil))) δ (op1 (isKU tab) wa) := fun os as st γ σ H c0' st' S q QQ k => by
  obtain ⟨a, st1, qa, q⟩ := M.bind_inv q
  obtain ⟨e, rfl⟩ := M.o_inv q
  refine ha os as st γ σ H a _ S qa _ fun x H1 as1 g1 S1 px => ?_
  have key : ∃ c b a, tab c = some b ∧ ExHd H1 a (F.G.at_ c) ∧ x = .ref a ∧ c0' = .bl b := by
    cases a with
    | exc c =>
      obtain ⟨b, eb, rfl⟩ := Option.map_eq_some_iff.mp e
      obtain ⟨a, rfl, _, hr⟩ := px
      exact ⟨c, b, a, eb, .inl hr, rfl, rfl⟩
    | exo c f u =>
      obtain ⟨b, eb, rfl⟩ := Option.map_eq_some_iff.mp e
      obtain ⟨a, dd, w, rfl, _, _, hr, hx, _⟩ := px
      exact ⟨c, b, a, eb, .inr ⟨dd, _, hr, hx⟩, rfl, rfl⟩
    | _ => cases e
  obtain ⟨c, b, a, eb, hr, rfl, rfl⟩ := key
  obtain ⟨C, hk⟩ := hC c b eb
  refine tCs_at ⟨hl, fun tp hp => ⟨a, F.G.at_ c, tp, cs, cvs, b, rfl, ?_, C, .inl (.inl upd_same), fun us h => clKs_vals hv h, hk, ?_⟩⟩
  · have up : ∀ {b : Addr} {u : HO}, Rd H1 b u → Rd (upd H1 tp (.tup cs)) b u := fun {b u} h => by
      rcases h with h | ⟨o, h⟩
      · exact .inl (by rw [upd_ne (ne_of_none h hp)]; exact h)
      · exact .inr ⟨o, by rw [upd_ne (ne_of_none h hp)]; exact h⟩
    rcases hr with h | ⟨dd, fs, h, h2⟩
    · exact .inl (up h)
    · exact .inr ⟨dd, fs, up h, up h2⟩
  · exact k _ _ as1 (g1.trans (Go.of_ex (Ex.new hp))) (S1.ex (Ex.new hp)) rfl
end
section
variable {F : Fr} {S L : Type} {δ δx : Dl} {δn : S → Dl} {δl : L → Dl}
def tryK (tab : Str → Option Bool) (wb : M (Out S L)) (sx : U → S) : M (Out S L) := .bind wb fun o => match o with
  | .rt u => (match unEx u with
    | some c => (match tab (erc c) with
      | some true => .ret (.nx (sx (kpt c)))
      | _ => .fail)
    | none => .ret (.rt u))
  | o => .ret o
theorem blk_tryK {tb : WX → TS} {ch : Value} {i j : Nat} {Wout : WX} {tab : Str → Option Bool} {wb : M (Out S L)} {sx : U → S} (hb : ∀ W, BlkX F W (tb W) δ wb δn δl δx) (hx : ∀ u, Weak ((δx.set j (some (.im u))).set i none) (δn (sx u)))
    (ht : ∀ c, tab c = some true → PySem.W.exmOne F.G.K (.ref (F.G.at_ c)) ch = some true) : Blk F (fun D σ H => tb (wKeep F.G.K ch i j Wout D) D σ H) δ (tryK tab wb sx) δn δl := fun D os as st γ σ H o st' Q q P => by
  obtain ⟨o1, st1, q1, q⟩ := M.bind_inv q
  refine hb _ D os as st γ σ H o1 st1 Q q1 ?_
  cases o1 with
  | nx s => cases q; exact P
  | bk l => cases q; exact P
  | ct l => cases q; exact P
  | rt u =>
    have q : (match unEx u with | some c => (match tab (erc c) with | some true => (M.ret (Out.nx (sx (kpt c))) : M (Out S L)) | _ => M.fail) | none => M.ret (Out.rt u)) st1 = some (.ok o, st') := q
    cases e : unEx u with
    | none =>
      rw [e] at q
      cases q
      show (match unEx u with | some c => _ | none => _)
      rw [e]
      exact P
    | some c =>
      rw [e] at q
      show (match unEx u with | some c => _ | none => _)
      rw [e]
      cases et : tab (erc c) with
      | none => simp only [et] at q; cases q
      | some b =>
        cases b with
        | false => simp only [et] at q; cases q
        | true =>
          simp only [et] at q
          cases q
          intro os2 as2 σ2 H2 cls d S2 p
          refine ⟨true, by rw [erIm_cls p]; exact ht _ et, fun _ => ⟨F.G.at_ (erc c), erIm_cls p, fun a na => ?_⟩, fun z => nomatch z⟩
          refine P os2 as2 _ _ (((((S2.ex (Ex.new na)).set (i := j) (v := .ref a) (x := .im (kpt c)) ?_).unset (i := i) (o := none)).weak (hx _)))
          cases c with
          | str c =>
            obtain ⟨_, rfl⟩ := p
            exact ⟨a, rfl, S2.notban na, .inl upd_same⟩
          | exo c f u =>
            obtain ⟨_, dd, w, rfl, nb, hx, hi⟩ := p
            refine ⟨a, dd, w, rfl, S2.notban na, nb, .inl upd_same, ?_, im_st (RB.of_ex (Ex.new na)) _ _ hi⟩
            rcases hx with h | ⟨o, h⟩
            · exact .inl (by rw [upd_ne (ne_of_none h na)]; exact h)
            · exact .inr ⟨o, by rw [upd_ne (ne_of_none h na)]; exact h⟩
          | _ => exact p.elim
end
theorem weak_fin {δ δ' : Dl} (vs : List Nat) (h : wipD δ vs = δ') : Weak δ δ' := h ▸ weak_wip δ vs
section
variable {F : Fr} {W : WX} {S S1 L : Type} {δ δx : Dl} {te ta tb : TE} {tt : TT} {w wa wb : M U} {wt : M Bool} {t t1 t2 : TS} {δn : S → Dl} {δl : L → Dl}
theorem blkx_ifL (vl : S → Dl) {wo wu : M (Out S L)} (h : EvT F tt δ wt) (h1 : BlkX F W t1 δ wo vl δl δx) (h2 : BlkX F W t2 δ wu vl δl δx) : BlkX F W (tIfS tt t1 t2) δ (iteW wt wo wu) vl δl δx := blkx_if h h1 h2
end
abbrev tabX (l : List (Str × Bool)) : Str → Option Bool := fun c => l.lookup c
theorem tab_all {l : List (Str × Bool)} {P : Str → Bool → Prop} (h : ∀ p ∈ l, P p.1 p.2) : ∀ c b, tabX l c = some b → P c b := by
  intro c b e
  induction l with
  | nil => cases e
  | cons p l ih =>
    obtain ⟨d, b'⟩ := p
    have e : List.lookup c ((d, b') :: l) = some b := e
    rw [List.lookup_cons] at e
    by_cases z : c = d
    · subst z
      rw [show (c == c) = true from by simp] at e
      cases e
      exact h (c, b) List.mem_cons_self
    · rw [show (c == d) = false from by simpa using z] at e
      exact ih (fun p m => h p (List.mem_cons_of_mem _ m)) e
section
variable {P : Program} {w : World} {K : PySem.W.Frag} {mg : Str → Option Value} {bs : Heap} {x qu : Str} {pa : Arguments} {bo : List Stmt} {sc : Scope} {dv : List V} {kw : List (Str × V)} {f : Addr} {fd : FuncData}
theorem fn_okXF {at_ : Str → Addr} {N ps : List Str} {k : Nat} {fM : List U → M U} (Fd : FunD K x qu pa bo sc dv kw f fd) (Sc : FnScope N ps sc)
    (hlen : ∀ us st r, fM us st = some r → us.length = ps.length)
    (hb : ∀ (cv : Value) (A : Around) (o : List Env) (s : Shared) (H : Hp) (E : XK), Room k (A.deeper (envOfC qu sc s.heap.objs.size f cv)) →
      ∃ t, PSs (cxOf (L2.CX P w) P w K mg bs N qu sc f cv A o s H E) bo t ∧ ∀ B H0 as0 us st r, fM us st = some r → ∃ wo : M (Out Unit Unit), fM us = fnX wo ∧ BlkX ⟨⟨K, at_⟩, B, H0, as0, noR⟩ (fun cls d _ H => E cls d H) t (stD N us) wo (fun _ => dnil N) (fun _ => dnil N) (dnil N)) :
    FnOk P w K mg bs (L2.CX P w) (k + 1) f fd ps (spX ⟨K, at_⟩ fM) := by
  refine Fd.ok Sc (fun vs H Q E h => ?_) fun cv A o s H vs Q E rm hsp => ?_
  · obtain ⟨B, as, st, us, r, st', _, _, _, _, hi, hf, _⟩ := h
    rw [imAll_len hi]
    exact hlen us st _ hf
  · obtain ⟨B, as, st, us, r, st', ok, nd, nb, sto, hi, hf, kk⟩ := hsp
    obtain ⟨t, ht, hB⟩ := hb cv A o s H E rm
    refine ⟨t, ht, ?_⟩
    obtain ⟨wo, e, bl⟩ := hB B H as us st _ hf
    rw [e] at hf
    have S0 : SDo ⟨⟨K, at_⟩, B, H, as, noR⟩ [] as st [] H (start N vs) (stD N us) := SDo.start (F := ⟨⟨K, at_⟩, B, H, as, noR⟩) ok nd nb sto hi
    cases q : wo st with
    | none => unfold fnX at hf; rw [q] at hf; cases hf
    | some p =>
      obtain ⟨o1, st1⟩ := p
      unfold fnX at hf
      rw [q] at hf
      match o1, q, hf with
      | .ok (.rt u'), q, hf =>
        refine bl _ [] as st [] _ H _ st1 S0 q ?_
        cases e2 : unEx u' with
        | none =>
          have hf : (match unEx u' with | some c => some (.er c, st1) | none => some (.ok u', st1)) = some (r, st') := hf
          rw [e2] at hf
          cases hf
          show (match unEx u' with | some c => _ | none => _)
          rw [e2]
          exact fun as' v H' r => kk as' v H' r
        | some c =>
          have hf : (match unEx u' with | some c => some (.er c, st1) | none => some (.ok u', st1)) = some (r, st') := hf
          rw [e2] at hf
          cases hf
          show (match unEx u' with | some c => _ | none => _)
          rw [e2]
          exact fun os as' σ H' cls d S p => kk as' H' cls d (S.rtE p)
      | .ok (.nx _), q, hf =>
        cases hf
        refine bl _ [] as st [] _ H _ _ S0 q ?_
        exact fun os as' σ H' S => kk as' _ H' (S.rt rfl trivial)
end
end UX
namespace UX
open PySem PySem.Spec PyProof.Rows L2
section
variable {K : PySem.W.Frag}
theorem excI_ok {c : Str} (h : (FaX.excI c).ok K = true) : ExcC K (He.ga K c) := by
  obtain ⟨h1, h⟩ := He.ba h
  obtain ⟨h2, h⟩ := He.ba h
  obtain ⟨h3, h⟩ := He.ba h
  obtain ⟨h4, h⟩ := He.ba h
  obtain ⟨h5, h⟩ := He.ba h
  obtain ⟨h6, h⟩ := He.ba h
  obtain ⟨h7, h8⟩ := He.ba h
  exact ⟨He.eqO_ok h1, He.eqO_ok h2, of_decide_eq_true h3, h4, He.eqO_ok h5, He.eqO_ok h6, of_decide_eq_true h7, of_decide_eq_true h8⟩
theorem kit_ok {c d : Str} {b : Bool} (h : (FaX.kit c d b).ok K = true) : PySem.W.kitOne K (.ref (He.ga K c)) (.ref (He.ga K d)) = some b := of_decide_eq_true h
theorem kitT_ok {c : Str} {t : String} {b : Bool} (h : (FaX.kitT c t b).ok K = true) : PySem.W.kitOne K (.ref (He.ga K c)) (.type t) = some b := of_decide_eq_true h
theorem kitA_ok {c : Str} {ds : List Str} {b : Bool} (h : (FaX.kitA c ds b).ok K = true) : PySem.W.kitAny K (.ref (He.ga K c)) (ds.map fun d => .ref (He.ga K d)) = some b := of_decide_eq_true h
structure XcF (K : PySem.W.Frag) (C : Addr) : Prop where
  q : PySem.W.excIn K C He.veBase "ValueError.__new__" = true
  kp : PySem.W.keepIn K (.ref C) = true
  sb : PySem.W.subIn K (.ref C) (.type "BaseException") = some true
  ty : PySem.W.typeIn K (.ref C) = some (.type "type")
theorem xc_ok {c : Str} (h : (He.Fa.exc c).ok K = true) : XcF K (He.ga K c) := by
  obtain ⟨h1, h2, h3, h4⟩ := He.exc_ok h
  exact ⟨h1, h2, h3, h4⟩
theorem pmk_xc {X : Cx} {C : Addr} {x : Str} {p pos : Pos} (F : XcF X.K C) (gC : X.mg x = some (.ref C)) (hg : Gl X x) (hdb : (x == ("__debug__" : Str)) = false := by decide) : PMk X (.Call (.Name x p) [] [] pos) (fun _ H Q => Q (.ref C) none H) :=
  pmk_own0 PySem.F.excBase_ValueError F.q gC F.kp (raises_own F.sb F.ty) hg hdb
end
end UX
namespace GQ
open PySem PySem.SeqAt
open AutoSeq1 (wpAny_loadPart')
open MeetsSeq MeetsSeq2 MeetsSeq3 SeqRoads2
section
variable {prog : Program} {w : World} {A : Around} {R : Result → Shared → Prop}
end
end GQ
namespace UX
open PySem PySem.Spec PyProof.Rows L2
open EL (Ex RB BOk Bn TK)
section
variable {X : Cx} {CX : CXT} {k : Nat} {f C : Addr} {fd : FuncData} {ps : List Str} {sp : Sp} {E : XK}
end
section
variable {F : Fr} {δ : Dl} {ta tb : TE} {wa wb : M U} {E : XK} {f : List U → M U} {c : Str} {g : Bool}
end
section
variable {F : Fr} {W : WX} {S S1 L : Type} {δ δx : Dl} {te ta tb : TE} {tt : TT} {w wa wb : M U} {wt : M Bool} {t t1 t2 : TS} {δn : S → Dl} {δl : L → Dl}
theorem blkx_last {wo : M (Out S L)} (h : BlkX F W (tSeq t tNext) δ wo δn δl δx) : BlkX F W t δ wo δn δl δx := h
end
mutual
inductive Dd (K : PySem.W.Frag) (H : Hp) : V → PyData → Prop
  | non : Dd K H .non .none
  | bl (b : Bool) : Dd K H (.bl b) (.bool b)
  | int (i : Int) : Dd K H (.int i) (.int i)
  | str (x : Str) : Dd K H (.str x) (.str x)
  | lst {a : Addr} {xs : List V} {ds : List PyData} : SqL K H a xs → DdAll K H xs ds → Dd K H (.ref a) (.list ds)
  | tup {a : Addr} {xs : List V} {ds : List PyData} : SqT K H a xs → DdAll K H xs ds → Dd K H (.ref a) (.tuple ds)
  | dct {a : Addr} {kvs : List (Key × V)} {ds : List (PyData × PyData)} : Rd H a (.dK kvs) → DdKv K H kvs ds → Dd K H (.ref a) (.dict ds)
inductive DdAll (K : PySem.W.Frag) (H : Hp) : List V → List PyData → Prop
  | nil : DdAll K H [] []
  | cons {v : V} {vs : List V} {d : PyData} {ds : List PyData} : Dd K H v d → DdAll K H vs ds → DdAll K H (v :: vs) (d :: ds)
inductive DdKv (K : PySem.W.Frag) (H : Hp) : List (Key × V) → List (PyData × PyData) → Prop
  | nil : DdKv K H [] []
  | int {i : Int} {v : V} {kvs : List (Key × V)} {d : PyData} {ds : List (PyData × PyData)} : Dd K H v d → DdKv K H kvs ds → DdKv K H ((.inl i, v) :: kvs) ((.int i, d) :: ds)
  | str {x : Str} {v : V} {kvs : List (Key × V)} {d : PyData} {ds : List (PyData × PyData)} : Dd K H v d → DdKv K H kvs ds → DdKv K H ((.inr x, v) :: kvs) ((.str x, d) :: ds)
end
section
variable {X : Cx} {pins : List (Addr × Obj)} {σ : L2.St} {H : Hp} {s : Shared}
theorem SysD.off {K : PySem.W.Frag} {h : Heap} (hS : SysD K) (kin : K.In h) {a : Addr} {o : Obj} (e : h.get? a = some o) (hc : o.cls = .type "list") : sysModules ≠ a := fun z => by
  obtain ⟨o1, h1, h2⟩ := hS
  have := kin _ _ h1
  rw [z, e] at this
  cases this
  rw [hc] at h2
  exact absurd h2 (by decide)
mutual
theorem Dd.reads (hS : SysD X.K) (I : Inv X pins σ H s) : ∀ {d : PyData} {v : V} {u : Value}, Dd X.K H v d → RelV v u → ∃ as, Reads s.heap u d as ∧ sysModules ∉ as
  | _, _, _, .non, r => by cases r; exact ⟨_, Reads.none, fun z => nomatch z⟩
  | _, _, _, .bl b, r => by cases r; exact ⟨_, Reads.bool b, fun z => nomatch z⟩
  | _, _, _, .int i, r => by obtain ⟨t, rfl⟩ := r; exact ⟨_, Reads.int i t, fun z => nomatch z⟩
  | _, _, _, .str x, r => by obtain ⟨t, rfl⟩ := r; exact ⟨_, Reads.str x t, fun z => nomatch z⟩
  | _, _, _, .lst hs ha, r => by
    cases r
    obtain ⟨its, rv, ⟨o, n, ho, hc, _, hd⟩, _⟩ := I.list hs
    obtain ⟨as, hr, hn⟩ := Dd.readsAll hS I ha rv
    refine ⟨_, Reads.list ho hc hd (by simpa using hr), fun z => ?_⟩
    rcases List.mem_cons.mp z with z | z
    · exact hS.off I.kIn ho hc z
    · exact hn z
  | _, _, _, .tup hs ha, r => by
    cases r
    obtain ⟨its, rv, ⟨o, ho, hc, n, hd⟩, _⟩ := I.tuple hs
    obtain ⟨as, hr, hn⟩ := Dd.readsAll hS I ha rv
    exact ⟨_, Reads.tuple ho hc hd (by simpa using hr), hn⟩
  | _, _, _, .dct hs ha, r => by
    cases r
    obtain ⟨_, hsm, vs, kv, o, es, ep, ho, hx, hd, _, pr, _⟩ := dk_rd I.hok hs
    obtain ⟨as, bs, h1, h2, h3, h4⟩ := Dd.readsKv hS I ha kv pr
    refine ⟨_, Reads.dict ho hx.1 hd h1 h2, fun z => ?_⟩
    rcases List.mem_cons.mp z with z | z
    · exact absurd z.symm (by simpa using hsm)
    · rcases List.mem_append.mp z with z | z
      · exact h3 z
      · exact h4 z
theorem Dd.readsAll (hS : SysD X.K) (I : Inv X pins σ H s) : ∀ {ds : List PyData} {vs : List V} {us : List Value}, DdAll X.K H vs ds → Vals vs us → ∃ as, ReadsAll s.heap us ds as ∧ sysModules ∉ as
  | _, _, _, .nil, r => by cases r; exact ⟨_, ReadsAll.nil, fun z => nomatch z⟩
  | _, _, _, .cons h1 h2, r => by
    cases r with
    | cons r1 r2 =>
      obtain ⟨as, q1, n1⟩ := Dd.reads hS I h1 r1
      obtain ⟨bs, q2, n2⟩ := Dd.readsAll hS I h2 r2
      exact ⟨_, ReadsAll.cons q1 q2, fun z => (List.mem_append.mp z).elim n1 n2⟩
theorem Dd.readsKv (hS : SysD X.K) (I : Inv X pins σ H s) : ∀ {kvs : List (Key × V)} {ds : List (PyData × PyData)} {vs : List (Key × Value)} {es : List DictEntry}, DdKv X.K H kvs ds → KV kvs vs → Pairs (mixKind X.prog X.w) es vs →
    ∃ as bs, ReadsAll s.heap (es.map (·.key)) (ds.map (·.1)) as ∧ ReadsAll s.heap (es.map (·.val)) (ds.map (·.2)) bs ∧ sysModules ∉ as ∧ sysModules ∉ bs
  | _, _, _, _, .nil, r, p => by
    cases r
    cases p
    exact ⟨_, _, ReadsAll.nil, ReadsAll.nil, (fun z => nomatch z), (fun z => nomatch z)⟩
  | _, _, _, _, .int (i := i) h1 h2, r, p => by
    cases r with
    | cons r1 r2 =>
      cases p with
      | cons p1 p2 p3 =>
        obtain ⟨as, bs, q1, q2, n1, n2⟩ := Dd.readsKv hS I h2 r2 p3
        obtain ⟨cs, q3, n3⟩ := Dd.reads hS I h1 (by rw [← p2] at r1; exact r1.2)
        have p1 : keyIs _ _ = true := p1
        rw [← r1.1] at p1
        obtain ⟨t, et⟩ := Value.isInt_shape (k := i) p1
        refine ⟨_, _, ReadsAll.cons (as := []) (by dsimp only; rw [et]; exact Reads.int i t) q1, ReadsAll.cons q3 q2, n1, fun z => (List.mem_append.mp z).elim n3 n2⟩
  | _, _, _, _, .str (x := x) h1 h2, r, p => by
    cases r with
    | cons r1 r2 =>
      cases p with
      | cons p1 p2 p3 =>
        obtain ⟨as, bs, q1, q2, n1, n2⟩ := Dd.readsKv hS I h2 r2 p3
        obtain ⟨cs, q3, n3⟩ := Dd.reads hS I h1 (by rw [← p2] at r1; exact r1.2)
        have p1 : keyIs _ _ = true := p1
        rw [← r1.1] at p1
        obtain ⟨t, et⟩ := Value.isStrOf_shape (x := x) p1
        refine ⟨_, _, ReadsAll.cons (as := []) (by dsimp only; rw [et]; exact Reads.str x t) q1, ReadsAll.cons q3 q2, n1, fun z => (List.mem_append.mp z).elim n3 n2⟩
end
end
section
variable {X : Cx}
def rReprE (K : PySem.W.Frag) : List V → Hp → VK → Prop := fun xs H Q => ∃ v d, xs = [v] ∧ Dd K H v d ∧ d.showable = true ∧ d.depth ≤ 64 ∧ d.shown.length ≤ sizeLine ∧ Q (.str d.shown) H
theorem call_reprE (hS : SysD X.K) (gd : X.A.guards = some []) (hu : X.A.units + 66 < cLine) : CallR X (.builtin "repr") (rReprE X.K) := by
  intro pins s σ H xs us Q I r h
  obtain ⟨v, d, rfl, hd, sh, dp, sz, q⟩ := h
  obtain ⟨u, rfl, ru⟩ := vals1 r
  obtain ⟨as, rd, hn⟩ := Dd.reads hS I hd ru
  have fin : ∀ (h' : Heap) (t : Tok) (tk : Nat), (∀ b o, s.heap.get? b = some o → h'.get? b = some o) → EP X pins σ Q (.str d.shown t) { s with heap := h', toks := tk } := fun h' t tk hk => ⟨.str d.shown, H, I.kept hk, ⟨t, rfl⟩, q⟩
  cases hd with
  | lst a b => cases ru; exact repr_of_reads' rd sh (fun _ => hn) gd (by omega) (fun _ _ z => z) fin sz
  | tup a b => cases ru; exact repr_of_reads' rd sh (fun _ => hn) gd (by omega) (fun _ _ z => z) fin sz
  | dct a b => cases ru; exact repr_of_reads' rd sh (fun _ => hn) gd (by omega) (fun _ _ z => z) fin sz
  | non => cases ru; rw [PyData.shown_none] at fin; exact PySem.P.repr_of_none (fin s.heap _ _ fun _ _ z => z)
  | bl b => cases ru; rw [PyData.shown_bool] at fin; exact PySem.P.repr_of_bool (by cases b <;> exact fin s.heap _ _ fun _ _ z => z)
  | int i => obtain ⟨t, rfl⟩ := ru; rw [PyData.shown_int] at fin; exact PySem.P.repr_of_int (by simpa [PyData.showable] using sh) (fin s.heap _ _ fun _ _ z => z)
  | str z => obtain ⟨t, rfl⟩ := ru; rw [PyData.shown_str] at fin sz; exact PySem.P.repr_of_str (fin s.heap _ _ fun _ _ z => z) sz
def strD : PyData → Str
  | .str x => x
  | d => d.shown
end
def kD : Key → PyData
  | .inl i => .int i
  | .inr x => .str x
mutual
def pdD : U → Option PyData
  | .non => some .none
  | .bl b => some (.bool b)
  | .int i => some (.int i)
  | .str x => some (.str x)
  | .tup us => (pdsD us).map .tuple
  | .lst us => (pdsD us).map .list
  | .dct ks us => (pdsD us).map fun ds => .dict ((ks.map kD).zip ds)
  | .dcT _ _ => none
  | .dcN _ _ => none
  | .obj _ _ _ => none
  | .top _ => none
  | .frl us => (pdsD us).map .list
  | .loc _ => none
  | .exc _ => none
  | .exo _ _ _ => none
def pdsD : List U → Option (List PyData)
  | [] => some []
  | u :: us => match pdD u, pdsD us with
    | some d, some ds => some (d :: ds)
    | _, _ => none
end
section
variable {G : Cxt} {rs : List Addr} {B B' : Bn} {H H' : Hp}
theorem ddKv_of {K : PySem.W.Frag} {H : Hp} : ∀ {ks : List Key} {vs : List V} {ds : List PyData}, DdAll K H vs ds → DdKv K H (ks.zip vs) ((ks.map UX.kD).zip ds)
  | [], _, _, _ => .nil
  | _ :: _, _, _, .nil => .nil
  | .inl _ :: _, _, _, .cons h1 h2 => .int h1 (ddKv_of h2)
  | .inr _ :: _, _, _, .cons h1 h2 => .str h1 (ddKv_of h2)
mutual
theorem im_dd : ∀ (u : U) (v : V) (d : PyData), im G rs B u v H → pdD u = some d → Dd G.K H v d
  | .non, _, _, h, e => by cases h; cases e; exact .non
  | .bl _, _, _, h, e => by cases h; cases e; exact .bl _
  | .int _, _, _, h, e => by cases h; cases e; exact .int _
  | .str _, _, _, h, e => by cases h; cases e; exact .str _
  | .tup us, _, d, ⟨a, vs, e, s, q⟩, e' => by
    subst e
    obtain ⟨ds, e1, rfl⟩ := Option.map_eq_some_iff.mp (show (pdsD us).map .tuple = some d from e')
    exact .tup (EL.sqT_of s) (imAll_dd us vs ds q e1)
  | .lst us, _, d, ⟨a, vs, e, _, s, q⟩, e' => by
    subst e
    obtain ⟨ds, e1, rfl⟩ := Option.map_eq_some_iff.mp (show (pdsD us).map .list = some d from e')
    exact .lst (.inl (.inl s)) (imAll_dd us vs ds q e1)
  | .dct ks us, _, d, ⟨a, vs, e, _, s, l, q⟩, e' => by
    subst e
    obtain ⟨ds, e1, rfl⟩ := Option.map_eq_some_iff.mp (show (pdsD us).map (fun ds => PyData.dict ((ks.map UX.kD).zip ds)) = some d from e')
    exact .dct s (ddKv_of (imAll_dd us vs ds q e1))
  | .dcT _ _, _, _, _, e' => by cases e'
  | .dcN _ _, _, _, _, e' => by cases e'
  | .obj _ _ _, _, _, _, e' => by cases e'
  | .top _, _, _, _, e' => by cases e'
  | .frl us, _, d, ⟨a, vs, e, s, q⟩, e' => by
    subst e
    obtain ⟨ds, e1, rfl⟩ := Option.map_eq_some_iff.mp (show (pdsD us).map .list = some d from e')
    exact .lst s.sq (imAll_dd us vs ds q e1)
  | .loc _, _, _, _, e' => by cases e'
  | .exc _, _, _, _, e' => by cases e'
  | .exo _ _ _, _, _, _, e' => by cases e'
theorem imAll_dd : ∀ (us : List U) (vs : List V) (ds : List PyData), imAll G rs B us vs H → pdsD us = some ds → DdAll G.K H vs ds
  | [], _, _, h, e => by rw [show _ = _ from h]; cases e; exact .nil
  | u :: us, _, ds, ⟨v, w, e, h1, h2⟩, e' => by
    subst e
    rw [pdsD] at e'
    cases e1 : pdD u with
    | none => rw [e1] at e'; cases e'
    | some d =>
      cases e2 : pdsD us with
      | none => rw [e1, e2] at e'; cases e'
      | some ds => rw [e1, e2] at e'; cases e'; exact .cons (im_dd u v d h1 e1) (imAll_dd us w ds h2 e2)
end
end
def shD (d : PyData) : Bool := d.showable && (decide (d.depth ≤ 64) && decide (d.shown.length ≤ sizeLine))
def reprE (u : U) : Option U := match pdD u with
  | some d => if shD d = true then some (.str d.shown) else none
  | none => none
theorem call_reprEK {X : Cx} {K : PySem.W.Frag} (hS : SysD K) (gd : X.A.guards = some []) (hu : X.A.units + 66 < cLine) (h : X.K = K := by rfl) : CallR X (.builtin "repr") (rReprE K) := by
  subst h
  exact call_reprE hS gd hu
section
variable {F : Fr}
theorem ok_reprE : Op1Ok F (rReprE F.G.K) reprE := fun os as H a c x ok ha e QQ k => by
  unfold reprE at e
  cases e1 : pdD a with
  | none => rw [e1] at e; cases e
  | some d =>
    rw [e1] at e
    simp [shD] at e
    obtain ⟨⟨h1, h3, h4⟩, rfl⟩ := e
    exact ⟨x, d, rfl, im_dd _ _ _ (rd_im0 ha) e1, h1, h3, h4, k _ H (Ex.refl H) rfl⟩
end
section
variable {X : Cx}
end
def shS (d : PyData) : Bool := d.showable && (decide (d.depth ≤ 60) && (decide (d.shown.length ≤ sizeLine) && (match d with
  | .int i => decide (i.natAbs.log2 < 1920)
  | _ => true)))
def strE (u : U) : Option U := match pdD u with
  | some d => if shS d = true then some (.str (strD d)) else none
  | none => none
section
variable {F : Fr}
end
end UX
namespace PySem.SeqAt
end PySem.SeqAt
namespace UX
open PySem PySem.Spec PyProof.Rows L2
open EL (Ex RB BOk Bn TK)
section
variable {X : Cx}
def b2i (b : Bool) : Int := if b = true then 1 else 0
inductive NumV : V → Int → Prop
  | int (i : Int) : NumV (.int i) i
  | bl (b : Bool) : NumV (.bl b) (b2i b)
end
section
variable {F : Fr}
end
end UX
namespace UY
open PySem PySem.Spec PyProof.Rows L2
section
variable {X : Cx}
end
end UY
namespace UX
open PySem PySem.Spec PyProof.Rows L2 UY
open EL (Ex RB BOk Bn TK)
section
variable {F : Fr} {S L : Type} {δ : Dl} {δn : S → Dl} {δl : L → Dl} {t2 : TS} {i : Nat} {tx : TE}
end
section
variable {F : Fr} {S L : Type} {δ : Dl} {δn : S → Dl} {δl : L → Dl} {t2 : TS} {i : Nat} {Sh0 : Sh} {tp tv ty : TE}
theorem Hole.put {os : Os} {as : SA} {st : Sto} {γ : List (U × V)} {σ : L2.St} {H : Hp} {h : Hl} {k x d' : U} {y z v : V} (hl : Hole F os as i Sh0 σ H (.dct .leaf) h v) (Q : SDo F os as st γ H σ δ) (e : putU h.1 k x = some d') (pk : im F.G (rts as) (ban F os as) k y H) (px : im F.G (rts as) (ban F os as) x z H) :
    ∃ a H', v = .ref a ∧ DPut H a y z H' ∧ SDo F os as st γ H' σ (δ.set i (some (.own Sh0 (h.2 d')))) := by
  obtain ⟨A, A1, A', A2, v0, m, e0, eA, o, pl⟩ := hl.ex
  have fin : ∀ {a : Addr} {o1 o2 : HO}, v = .ref a → A' = [a] → H a = some o1 → (∀ xs, o1 ≠ .tup xs) → (∀ y u, o1 ≠ .frz y u) → ((∀ {us : List U} {vs : List V}, imAll F.G (rts as) (ban F os as) us vs H → imAll F.G (rts as) (ban F os as) us vs (upd H a o2)) → ownD F.G (rts as) (ban F os as) (.dct .leaf) d' v (upd H a o2) [a]) →
      SDo F os as st γ (upd H a o2) σ (δ.set i (some (.own Sh0 (h.2 d')))) := fun {a o1 o2} ev e2 e3 nt nf hn => by
    have ma : a ∈ A := by rw [eA, e2]; exact List.mem_append_right _ List.mem_cons_self
    have c : Chg F os as H (upd H a o2) i A A a := chg_same m ma Q e3 nt nf
    have so := setOs_same Q.ix m
    have nd := os_nodup os (List.nodup_append.mp Q.nd).1 m
    rw [eA, e2] at nd
    have := Q.mut c (x := some (.own Sh0 (h.2 d'))) fun s es => by
      cases es
      refine ⟨_, _, v0, rfl, e0, ?_⟩
      rw [so]
      have := pl (rts as) (ban F os as) (upd H a o2) d' A' (fun u v z => by have := c.im z; rw [so] at this; exact this) (fun b xs z => c.rb.tup _ _ z) (fun b z => upd_ne fun e => ?_) (by rw [e2]; exact hn fun z => by have := c.imAll z; rw [so] at this; exact this)
      · rw [eA]; exact this
      · subst e
        have nd' := List.nodup_append.mp nd
        rcases z with z | z
        · exact nd'.2.2 b z b List.mem_cons_self rfl
        · exact (List.nodup_cons.mp nd'.2.1).1 z
    rw [so] at this
    exact this
  cases eu : h.1 with
  | dct ks us =>
    rw [eu] at o e
    obtain ⟨a, vs, e1, e2, e3, l, hv⟩ := own_dct.mp o
    simp only [putU] at e
    split at e
    · rename_i hl
      cases ek : keyU k with
      | none => rw [ek] at e; cases e
      | some key =>
        rw [ek] at e
        simp only at e
        have ey := im_key ek pk
        subst ey
        have hz : (ks.zip vs).length < sizeLine := by rw [List.length_zip]; omega
        obtain ⟨ks', us', e5, rfl⟩ : ∃ ks' us', (match idxK key ks with | some j => if ks.Nodup then some (ks, us.set j x) else none | none => some (ks ++ [key], us ++ [x])) = some (ks', us') ∧ d' = .dct ks' us' := by
          cases ei : idxK key ks with
          | some j =>
            rw [ei] at e
            simp only at e ⊢
            split at e
            · rename_i nd
              cases e
              exact ⟨_, _, if_pos nd, rfl⟩
            · cases e
          | none => rw [ei] at e; cases e; exact ⟨_, _, rfl, rfl⟩
        obtain ⟨vs', p1, p2, p3⟩ := put_zip l hv px e5
        refine ⟨a, _, e1, DPut.k e3 hz, ?_⟩
        rw [p1]
        exact fin e1 e2 e3 (fun _ z => nomatch z) (fun _ _ z => nomatch z) fun t => own_dct.mpr ⟨a, vs', e1, rfl, upd_same, p2, t p3⟩
    · cases e
  | dcT ks us =>
    rw [eu] at o e
    obtain ⟨a, vs, e1, e2, e3, l, hv⟩ := own_dcT.mp o
    simp only [putU] at e
    split at e
    · rename_i hl
      cases ek : tkeyU k with
      | none => rw [ek] at e; cases e
      | some key =>
        rw [ek] at e
        simp only at e
        obtain ⟨b, ey, hb⟩ := im_tkey ek pk
        subst ey
        have hz : (ks.zip vs).length < sizeLine := by rw [List.length_zip]; omega
        obtain ⟨ks', us', e5, rfl⟩ : ∃ ks' us', (match idxK key ks with | some j => if ks.Nodup then some (ks, us.set j x) else none | none => some (ks ++ [key], us ++ [x])) = some (ks', us') ∧ d' = .dcT ks' us' := by
          cases ei : idxK key ks with
          | some j =>
            rw [ei] at e
            simp only at e ⊢
            split at e
            · rename_i nd
              cases e
              exact ⟨_, _, if_pos nd, rfl⟩
            · cases e
          | none => rw [ei] at e; cases e; exact ⟨_, _, rfl, rfl⟩
        obtain ⟨vs', p1, p2, p3⟩ := put_zip l hv px e5
        refine ⟨a, _, e1, DPut.t e3 hb hz, ?_⟩
        rw [p1]
        exact fin e1 e2 e3 (fun _ z => nomatch z) (fun _ _ z => nomatch z) fun t => own_dcT.mpr ⟨a, vs', e1, rfl, upd_same, p2, t p3⟩
    · cases e
  | _ => rw [eu] at e; cases e
end
section
variable {F : Fr} {S L : Type} {δ : Dl} {δn : S → Dl} {δl : L → Dl} {t2 : TS} {i : Nat} {Sh0 : Sh} {tp tv ty : TE}
end
section
variable {F : Fr} {S L : Type} {δ : Dl} {g : TG} {tb : TS} {td : TE} {wd : M (U × U)} {δ2 : L → Dl} {i : Nat} {Sh0 : Sh}
end
structure DSN (F : Fr) (s : Sh) (os : Os) (k0 : Nat) (D : Addr) (as : SA) (st : Sto) (γ : List (U × V)) (H : Hp) (σ : L2.St) (δ : Dl) (ks : List Key) (us : List U) (A : List Addr) : Prop where
  S : SDo F ((k0, D :: A) :: os) as st γ H σ δ
  a : ∃ vs, H D = some (.dK (ks.zip vs)) ∧ ks.length = us.length ∧ ownZ (fun _ => ownD F.G (rts as) (ban F ((k0, D :: A) :: os) as) s) 0 us vs H A
section
variable {F : Fr} {os : Os} {as as' : SA} {st st' : Sto} {γ : List (U × V)} {H H' : Hp} {σ : L2.St} {δ : Dl} {k0 : Nat} {D : Addr} {ks : List Key} {us : List U} {A : List Addr} {s : Sh}
theorem DSN.go (l : DSN F s os k0 D as st γ H σ δ ks us A) {σ' : L2.St} {δ' : Dl} (g : Go as as' H H') (S : SDo F ((k0, D :: A) :: os) as' st' γ H' σ' δ') : DSN F s os k0 D as' st' γ H' σ' δ' ks us A := by
  obtain ⟨vs, e, le, h⟩ := l.a
  have nf : ∀ a ∈ D :: A, a ∉ fl as := fun a m q => (List.nodup_append.mp l.S.nd).2.2 a (List.mem_append_left _ m) a q rfl
  exact ⟨S, vs, g.rb.keep _ _ (nf D List.mem_cons_self) e, le, ownZ_go g h (fun a m => nf a (List.mem_cons_of_mem _ m)) fun a m => l.S.ok a (.inr (.inl (List.mem_append_left _ (List.mem_cons_of_mem _ m))))⟩
theorem DSN.push {k : Nat} {B : List Addr} (l : DSN F s os k0 D as st γ H σ δ ks us A) (hk : δ.length ≤ k0) (hk1 : δ.length ≤ k) (hko : k0 ∉ os.map (·.1)) {u : U} {z : V} {key : Key} {as2 : SA} {st2 : Sto} {H2 : Hp} (g : Go as as2 H H2) (S2 : SDo F ((k, B) :: (k0, D :: A) :: os) as2 st2 γ H2 σ δ) (hB : ∀ a ∈ B, H a = none) (p : ownD F.G (rts as2) (ban F ((0, B) :: (k0, D :: A) :: os) as2) s u z H2 B) (hsz : ks.length < sizeLine) (ei : idxK key ks = none) :
    ∃ o, DPut H2 D (kV key) z (upd H2 D o) ∧ DSN F s os k0 D as2 st2 γ (upd H2 D o) σ δ (ks ++ [key]) (us ++ [u]) (A ++ B) := by
  obtain ⟨vs, e, le, h⟩ := l.a
  have nf : ∀ a ∈ D :: A, a ∉ fl as := fun a m q => (List.nodup_append.mp l.S.nd).2.2 a (List.mem_append_left _ m) a q rfl
  have al : ∀ a ∈ D :: A, H a ≠ none := fun a m => l.S.ok a (.inr (.inl (List.mem_append_left _ m)))
  have e2 : H2 D = some (.dK (ks.zip vs)) := g.rb.keep _ _ (nf D List.mem_cons_self) e
  have lv : ks.length = vs.length := by rw [ownZ_len h]; exact le
  have h2 : ownZ (fun _ => ownD F.G (rts as2) (ban F ((k, B) :: (k0, D :: A) :: os) as2) s) 0 us vs H2 A := by
    have h1 : ownZ (fun _ => ownD F.G (rts as) (ban F ((k, B) :: (k0, D :: A) :: os) as) s) 0 us vs H A := ownZ_mono (fun n u v A1 hs ho => own_mono (fun _ _ z => im_sub (sub_cons hB) _ _ z) (fun _ _ z => z) _ _ _ _ (fun _ _ => rfl) ho) h
    exact ownZ_go (os := (k, B) :: (k0, D :: A) :: os) g h1 (fun a m => nf a (List.mem_cons_of_mem _ m)) fun a m => al a (List.mem_cons_of_mem _ m)
  have S3 := S2.merge (k := k0) hk hk1 hko
  have c : Chg F ((k0, (D :: A) ++ B) :: os) as2 H2 (upd H2 D (.dK ((ks ++ [key]).zip (vs ++ [z])))) k0 ((D :: A) ++ B) ((D :: A) ++ B) D := chg_same List.mem_cons_self List.mem_cons_self S3 e2 (fun _ z => nomatch z) (fun _ _ z => nomatch z)
  have S4 := S3.mut c (x := none) (fun _ z => nomatch z)
  have so := setOs_same S3.ix (List.mem_cons_self (a := (k0, (D :: A) ++ B)) (l := os))
  rw [so, List.set_eq_of_length_le hk] at S4
  have bb : ∀ a, ban F ((k0, (D :: A) ++ B) :: os) as2 a → ban F ((k, B) :: (k0, D :: A) :: os) as2 a := fun a b => by
    rw [ban_cons, List.mem_append] at b
    rw [ban_cons, ban_cons]
    rcases b with (h | h) | h
    · exact .inr (.inl h)
    · exact .inl h
    · exact .inr (.inr h)
  have up : ∀ u v, im F.G (rts as2) (ban F ((k, B) :: (k0, D :: A) :: os) as2) u v H2 → im F.G (rts as2) (ban F ((k0, D :: (A ++ B)) :: os) as2) u v (upd H2 D (.dK ((ks ++ [key]).zip (vs ++ [z])))) := fun u v h => by
    have h1 : im F.G (rts as2) (ban F ((k0, (D :: A) ++ B) :: os) as2) u v H2 := im_sub (fun a _ b => bb a b) _ _ h
    have := c.im h1
    rw [so] at this
    exact this
  have nd : ((D :: A) ++ B).Nodup := os_nodup _ (List.nodup_append.mp S3.nd).1 List.mem_cons_self
  have nD := (List.nodup_cons.mp (show (D :: (A ++ B)).Nodup from nd)).1
  have tt : ∀ c xs, H2 c = some (.tup xs) → (upd H2 D (.dK ((ks ++ [key]).zip (vs ++ [z])))) c = some (.tup xs) := fun c xs h => by rw [upd_ne (fun e => by rw [e, e2] at h; cases h)]; exact h
  have hz : (ks.zip vs).length < sizeLine := by rw [List.length_zip, ← lv, Nat.min_self]; exact hsz
  refine ⟨.dK ((ks ++ [key]).zip (vs ++ [z])), by rw [← putK_zip lv ei]; exact DPut.k e2 hz, S4, vs ++ [z], upd_same, by simp [le], ?_⟩
  have hz := ownZ_mono (P' := fun _ => ownD F.G (rts as2) (ban F ((k0, D :: (A ++ B)) :: os) as2) s) (H' := upd H2 D (.dK ((ks ++ [key]).zip (vs ++ [z])))) (fun n u v A1 hs ho => own_mono up tt _ _ _ _ (fun a m => upd_ne fun z => nD (z ▸ List.mem_append_left _ (hs a m))) ho) h2
  exact ownZ_snoc1 hz (own_mono up tt _ _ _ _ (fun a m => upd_ne fun z => nD (z ▸ List.mem_append_right _ m)) p)
end
section
variable {F : Fr} {δ : Dl} {wi : TI} {g : TG} {tt : TT} {tk tv : TE} {vs : List Nat} {wl : M (List U)} {s : Sh}
end
end UX
namespace UY
open PySem PySem.Spec PyProof.Rows L2
end UY
namespace UX
open PySem PySem.Spec PyProof.Rows L2 UY
open EL (Ex RB BOk Bn TK)
section
variable {F : Fr} {δ : Dl} {g : TG} {tt : TT} {te td : TE} {vs : List Nat} {wd : M U}
end
end UX
namespace UY
open PySem PySem.Spec PyProof.Rows L2
section
variable {X : Cx}
end
end UY
namespace UX
open PySem PySem.Spec PyProof.Rows L2 UY
open EL (Ex RB BOk Bn TK)
section
variable {G : Cxt} {rs : List Addr} {B : Bn} {H : Hp}
end
section
variable {F : Fr} {S L : Type} {δ : Dl} {δn : S → Dl} {δl : L → Dl} {t2 : TS} {i : Nat} {tx : TE}
end
section
variable {P : Program} {w : World} {A : Around} {E : Value → Shared → Prop} {s : Shared}
end
def RowsOkF (d : Nat) (L : List (List Int)) : Prop := 1 ≤ d ∧ (ddp L).length + 1 < 64 ∧ ∀ ns ∈ L, ns.length = d ∧ TS.Bd B0 ns
instance (d : Nat) (L : List (List Int)) : Decidable (RowsOkF d L) := by unfold RowsOkF TS.Bd; infer_instance
section
variable {F : Fr}
end
end UX
namespace UY
open PySem PySem.Spec PyProof.Rows L2
end UY
namespace UX
open PySem PySem.Spec PyProof.Rows L2 UY
open EL (Ex RB BOk Bn TK)
section
variable {F : Fr} {δ : Dl} {ta tb : TE} {wa wb : M U}
end
mutual
def tf : NestedKey → Bool
  | .none => true
  | .num _ => true
  | .text _ => false
  | .tup ks => tfs ks
def tfs : List NestedKey → Bool
  | [] => true
  | k :: ks => tf k && tfs ks
end
mutual
theorem nk_tf : ∀ (u : U) (k : NestedKey), nkU u = some k → tf k = true
  | .non, _, e => by cases e; rfl
  | .bl _, _, e => by cases e; rfl
  | .int _, _, e => by cases e; rfl
  | .tup us, k, e => by
    obtain ⟨ks, e1, rfl⟩ := Option.map_eq_some_iff.mp (show (nkAll us).map .tup = some k from e)
    exact nks_tf us ks e1
  | .str _, _, e => by cases e
  | .lst _, _, e => by cases e
  | .dct _ _, _, e => by cases e
  | .dcT _ _, _, e => by cases e
  | .dcN _ _, _, e => by cases e
  | .obj _ _ _, _, e => by cases e
  | .top _, _, e => by cases e
  | .frl _, _, e => by cases e
  | .loc _, _, e => by cases e
  | .exc _, _, e => by cases e
  | .exo _ _ _, _, e => by cases e
theorem nks_tf : ∀ (us : List U) (ks : List NestedKey), nkAll us = some ks → tfs ks = true
  | [], _, e => by cases e; rfl
  | u :: us, ks, e => by
    rw [nkAll] at e
    cases e1 : nkU u with
    | none => rw [e1] at e; cases e
    | some k =>
      cases e2 : nkAll us with
      | none => rw [e1, e2] at e; cases e
      | some ks' =>
        rw [e1, e2] at e
        cases e
        show (tf k && tfs ks') = true
        rw [nk_tf u k e1, nks_tf us ks' e2]; rfl
end
section
variable {P : Program} {w : World} {H : Hp} {h : Heap} {G : Cxt} {rs : List Addr} {B : Bn}
mutual
theorem nk_is (ok : HOk P w H h) : ∀ (u : U) (k : NestedKey) (v : V) (x : Value), nkU u = some k → im G rs B u v H → RelV v x → NestedIs h k x
  | .non, _, _, _, e, p, r => by
    cases e; cases p
    cases (show _ = Value.none from r); exact .none
  | .bl b, _, _, _, e, p, r => by
    cases e; cases p
    cases (show _ = Value.bool b from r); exact .bool rfl
  | .int i, _, _, _, e, p, r => by
    cases e; cases p
    obtain ⟨t, rfl⟩ := (show ∃ t, _ = Value.int i t from r); exact .int i t
  | .tup us, k, _, _, e, p, r => by
    obtain ⟨ks, e1, rfl⟩ := Option.map_eq_some_iff.mp (show (nkAll us).map .tup = some k from e)
    obtain ⟨a, vs, rfl, s, q⟩ := p
    cases (show _ = Value.ref a from r)
    obtain ⟨_, its, rr, o, h1, h2, n, h3⟩ := (show ObjOk P w H h a (.tup vs) from ok a _ s)
    exact .tup h1 h2 h3 (nks_is ok us ks vs its e1 q rr)
  | .str _, _, _, _, e, _, _ => by cases e
  | .lst _, _, _, _, e, _, _ => by cases e
  | .dct _ _, _, _, _, e, _, _ => by cases e
  | .dcT _ _, _, _, _, e, _, _ => by cases e
  | .dcN _ _, _, _, _, e, _, _ => by cases e
  | .obj _ _ _, _, _, _, e, _, _ => by cases e
  | .top _, _, _, _, e, _, _ => by cases e
  | .frl _, _, _, _, e, _, _ => by cases e
  | .loc _, _, _, _, e, _, _ => by cases e
  | .exc _, _, _, _, e, _, _ => by cases e
  | .exo _ _ _, _, _, _, e, _, _ => by cases e
theorem nks_is (ok : HOk P w H h) : ∀ (us : List U) (ks : List NestedKey) (vs : List V) (xs : List Value), nkAll us = some ks → imAll G rs B us vs H → Vals vs xs → NestedAll h ks xs
  | [], _, _, _, e, p, r => by
    cases e
    rw [show _ = [] from p] at r
    cases r; exact .nil
  | u :: us, ks, _, xs, e, ⟨v, vr, ev, p1, p2⟩, r => by
    subst ev
    rw [nkAll] at e
    cases e1 : nkU u with
    | none => rw [e1] at e; cases e
    | some k =>
      cases e2 : nkAll us with
      | none => rw [e1, e2] at e; cases e
      | some ks' =>
        rw [e1, e2] at e
        cases e
        cases r with
        | cons r1 r2 => exact .cons (nk_is ok u k v _ e1 p1 r1) (nks_is ok us ks' vr _ e2 p2 r2)
end
def NK (H : Hp) (b : Addr) (k : NestedKey) : Prop := tf k = true ∧ k.depth ≤ 8 ∧ ∀ (P : Program) (w : World) (h : Heap), HOk P w H h → NestedIs h k (.ref b)
def NKs (H : Hp) (kvs : List NP) : Prop := ∀ x ∈ kvs, NK H x.2.1 x.1
theorem nk8_ok {u : U} {k : NestedKey} (e : nk8 u = some k) : nkU u = some k ∧ k.depth ≤ 8 := by
  unfold nk8 at e
  cases e1 : nkU u with
  | none => rw [e1] at e; cases e
  | some k' =>
    rw [e1] at e
    simp only at e
    split at e
    · rename_i d; cases e; exact ⟨rfl, d⟩
    · cases e
theorem NK.of {u : U} {k : NestedKey} {b : Addr} (e : nk8 u = some k) (p : im G rs B u (.ref b) H) : NK H b k :=
  ⟨nk_tf u k (nk8_ok e).1, (nk8_ok e).2, fun _ _ _ ok => nk_is ok u k _ _ (nk8_ok e).1 p rfl⟩
theorem nk8s_cons {u : U} {us : List U} {ks : List NestedKey} (e : nk8s (u :: us) = some ks) : ∃ k ks', nk8 u = some k ∧ nk8s us = some ks' ∧ ks = k :: ks' := by
  rw [nk8s] at e
  cases e1 : nk8 u with
  | none => rw [e1] at e; cases e
  | some k =>
    cases e2 : nk8s us with
    | none => rw [e1, e2] at e; cases e
    | some ks' => rw [e1, e2] at e; cases e; exact ⟨k, ks', rfl, rfl, rfl⟩
theorem NKs.of : ∀ {ks : List U} {kvs : List NP}, nk8s ks = some (kvs.map (·.1)) → imAll G rs B ks (nkA kvs) H → NKs H kvs
  | [], [], _, _ => fun _ m => nomatch m
  | [], _ :: _, e, _ => by cases e
  | u :: us, [], e, p => by obtain ⟨_, _, e1, _⟩ := p; cases e1
  | u :: us, y :: kvs, e, ⟨v, r, ev, p1, p2⟩ => by
    obtain ⟨k, ks', e1, e2, e3⟩ := nk8s_cons e
    cases e3
    cases ev
    intro x m
    rcases List.mem_cons.mp m with rfl | m
    · exact NK.of e1 p1
    · exact NKs.of e2 p2 x m
end
def valN (kvs : List NP) (k : NestedKey) : Option V := (kvs.find? fun x => decide (x.1 = k)).map (·.2.2)
def putN (kvs : List NP) (k : NestedKey) (b : Addr) (v : V) : List NP := if (kvs.any fun x => decide (x.1 = k)) = true then kvs.map fun x => if x.1 = k then (x.1, x.2.1, v) else x else kvs ++ [(k, b, v)]
theorem NKs.put {H : Hp} {kvs : List NP} {k : NestedKey} {b : Addr} {v : V} (h : NKs H kvs) (hb : NK H b k) : NKs H (putN kvs k b v) := by
  unfold putN
  intro x m
  split at m
  · obtain ⟨y, my, e⟩ := List.mem_map.mp m
    split at e
    · rename_i z
      subst e
      exact h y my
    · subst e; exact h y my
  · rcases List.mem_append.mp m with m | m
    · exact h x m
    · rw [List.mem_singleton.mp m]; exact hb
theorem NKV.val {kvs : List NP} {xs : List (NestedKey × Addr × Value)} (r : NKV kvs xs) (k : NestedKey) : RelO (valN kvs k) ((atKey xs k).map (·.2)) := by
  induction r with
  | nil => exact True.intro
  | @cons p q ps qs h t ih =>
    obtain ⟨h1, _, h2⟩ := h
    by_cases e : p.1 = k
    · have e' : q.1 = k := h1.symm.trans e
      have b : atKey (q :: qs) k = some q.2 := by simp [atKey, List.find?_cons, e']
      have a : valN (p :: ps) k = some p.2.2 := by simp [valN, List.find?_cons, e]
      rw [a, b]; exact h2
    · have e' : ¬ q.1 = k := fun z => e (h1.trans z)
      have b : atKey (q :: qs) k = atKey qs k := by simp [atKey, List.find?_cons, e']
      have a : valN (p :: ps) k = valN ps k := by simp [valN, List.find?_cons, e]
      rw [a, b]; exact ih
theorem valN_any (k : NestedKey) : ∀ kvs : List NP, (kvs.any fun x => decide (x.1 = k)) = (valN kvs k).isSome
  | [] => rfl
  | x :: kvs => by
    by_cases e : x.1 = k
    · simp [valN, List.find?_cons, e]
    · have := valN_any k kvs
      simp only [valN] at this ⊢
      simp [List.find?_cons, e]
      simpa using this
theorem NKV.put {kvs : List NP} {xs : List (NestedKey × Addr × Value)} (r : NKV kvs xs) (k : NestedKey) {b : Addr} {y : V} {u : Value} (ry : RelV y u) : NKV (putN kvs k b y) (storedH xs k b u) := by
  have e : (kvs.any fun x => decide (x.1 = k)) = (atKey xs k).isSome := by
    rw [valN_any, (r.val k).isSome_eq, Option.isSome_map]
  unfold putN storedH
  rw [e]
  by_cases q : (atKey xs k).isSome = true
  · rw [if_pos q, if_pos q]
    clear e q
    induction r with
    | nil => exact .nil
    | @cons p q ps qs h t ih =>
      rw [List.map_cons, List.map_cons]
      refine .cons ?_ ih
      obtain ⟨h1, h2, h3⟩ := h
      unfold putAt
      by_cases e : p.1 = k
      · rw [if_pos e, if_pos (h1.symm.trans e)]; exact ⟨h1, h2, ry⟩
      · rw [if_neg e, if_neg (fun z => e (h1.trans z))]; exact ⟨h1, h2, h3⟩
  · rw [if_neg q, if_neg q]; exact Paired.snoc r ⟨rfl, rfl, ry⟩
section
variable {P : Program} {w : World} {H : Hp} {h : Heap} {a : Addr} {kvs : List NP}
theorem NKV.mem {xs : List (NestedKey × Addr × Value)} (r : NKV kvs xs) {x : NestedKey × Addr × Value} (m : x ∈ xs) : ∃ y ∈ kvs, y.1 = x.1 ∧ y.2.1 = x.2.1 := by
  induction r with
  | nil => cases m
  | @cons p q ps qs h t ih =>
    rcases List.mem_cons.mp m with rfl | m
    · exact ⟨p, List.mem_cons_self, h.1, h.2.1⟩
    · obtain ⟨y, my, e⟩ := ih m
      exact ⟨y, List.mem_cons_of_mem _ my, e⟩
end
def NPut (H : Hp) (a : Addr) (y v : V) (H' : Hp) : Prop := ∃ kvs k b, H a = some (DNo a kvs) ∧ NKs H kvs ∧ y = .ref b ∧ NK H b k ∧ kvs.length < sizeLine ∧ H' = upd H a (DNo a (putN kvs k b v))
section
variable {X : Cx} {pins : List (Addr × Obj)} {σ : L2.St} {H : Hp} {s : Shared} {a : Addr} {y v : V} {u r : Value} {o : Option V} {A : Around} {E : Value → Shared → Prop}
end
section
variable {X : Cx} {o i e value : Expr} {pos pos' tpos : Pos} {td ty tv : TE}
end
def idxN (k : NestedKey) : List U → Option Nat
  | [] => none
  | u :: us => if nkU u = some k then some 0 else (idxN k us).map (· + 1)
def ndN (ks : List U) : Bool := match nk8s ks with
  | some nks => decide nks.Nodup
  | none => false
def putNU (d k v : U) : Option U := match d with
  | .dcN ks us => if ks.length < sizeLine ∧ ndN ks = true then match nk8 k with
    | some key => match k with
      | .tup _ => match idxN key ks with
        | some j => some (.dcN ks (us.set j v))
        | none => some (.dcN (ks ++ [k]) (us ++ [v]))
      | _ => none
    | none => none else none
  | _ => none
def isTupU : U → Bool
  | .tup _ => true
  | _ => false
def keysN : U → Option (List U)
  | .dcN ks _ => if ks.all isTupU = true then some ks else none
  | _ => none
theorem nk8s_len : ∀ {ks : List U} {nks : List NestedKey}, nk8s ks = some nks → nks.length = ks.length
  | [], _, e => by cases e; rfl
  | u :: us, _, e => by
    obtain ⟨_, _, _, e2, rfl⟩ := nk8s_cons e
    simp [nk8s_len e2]
theorem nk8s_snoc {k : U} {key : NestedKey} (e : nk8 k = some key) : ∀ {ks : List U} {nks : List NestedKey}, nk8s ks = some nks → nk8s (ks ++ [k]) = some (nks ++ [key])
  | [], _, e1 => by cases e1; show nk8s [k] = _; rw [nk8s, e]; rfl
  | u :: us, _, e1 => by
    obtain ⟨_, _, h1, h2, rfl⟩ := nk8s_cons e1
    show nk8s (u :: (us ++ [k])) = _
    rw [nk8s, h1, nk8s_snoc e h2]; rfl
section
variable {F : Fr} {os : Os} {as : SA} {H : Hp}
end
section
variable {F : Fr} {δ : Dl} {td ty tx ta tb : TE} {wd wk wx wa wb : M U}
end
theorem idxN_mem {k : NestedKey} : ∀ {ks : List U} {kvs : List NP}, nk8s ks = some (kvs.map (·.1)) → (idxN k ks = none → (kvs.any fun x => decide (x.1 = k)) = false) ∧ ∀ (b : Addr) (v : V) (j : Nat), idxN k ks = some j → (kvs.map (·.1)).Nodup →
    (kvs.any fun x => decide (x.1 = k)) = true ∧ (kvs.map fun x => if x.1 = k then (x.1, x.2.1, v) else x).map (·.1) = kvs.map (·.1) ∧ nkA (kvs.map fun x => if x.1 = k then (x.1, x.2.1, v) else x) = nkA kvs ∧ nkV (kvs.map fun x => if x.1 = k then (x.1, x.2.1, v) else x) = (nkV kvs).set j v
  | [], [], _ => ⟨fun _ => rfl, fun _ _ j e => by cases e⟩
  | [], _ :: _, e => by cases e
  | u :: us, [], e => by obtain ⟨_, _, _, _, e3⟩ := nk8s_cons e; cases e3
  | u :: us, y :: kvs, e => by
    obtain ⟨k', ks', e1, e2, e3⟩ := nk8s_cons e
    cases e3
    have ih := idxN_mem (k := k) (ks := us) (kvs := kvs) e2
    have hu : nkU u = some y.1 := (nk8_ok e1).1
    unfold idxN
    by_cases c : y.1 = k
    · rw [if_pos (by rw [hu, c])]
      refine ⟨fun z => (nomatch z), fun b v j ej nd => ?_⟩
      cases ej
      have nd' := List.nodup_cons.mp (show (y.1 :: kvs.map (·.1)).Nodup from nd)
      have same : (kvs.map fun x => if x.1 = k then (x.1, x.2.1, v) else x) = kvs := by
        have : (kvs.map fun x => if x.1 = k then (x.1, x.2.1, v) else x) = kvs.map id := List.map_congr_left fun x m => if_neg fun z => nd'.1 (by rw [c, ← z]; exact List.mem_map_of_mem (f := (·.1)) m)
        rw [this, List.map_id]
      refine ⟨by simp [c], ?_, ?_, ?_⟩
      · rw [List.map_cons, same, if_pos c]; rfl
      · rw [List.map_cons, same, if_pos c]; rfl
      · rw [List.map_cons, same, if_pos c]; rfl
    · rw [if_neg (by rw [hu]; exact fun z => c (Option.some.inj z))]
      refine ⟨fun z => ?_, fun b v j ej nd => ?_⟩
      · have : idxN k us = none := by cases h : idxN k us with | none => rfl | some j => rw [h] at z; cases z
        simp [c, ih.1 this]
      · obtain ⟨j', ej', rfl⟩ := Option.map_eq_some_iff.mp ej
        have nd' := List.nodup_cons.mp (show (y.1 :: kvs.map (·.1)).Nodup from nd)
        obtain ⟨h1, h2, h3, h4⟩ := ih.2 b v j' ej' nd'.2
        refine ⟨by rw [List.any_cons, h1, Bool.or_true], ?_, ?_, ?_⟩
        · rw [List.map_cons, if_neg c, List.map_cons, h2]; rfl
        · unfold nkA at h3 ⊢; rw [List.map_cons, if_neg c, List.map_cons, h3]; rfl
        · unfold nkV at h4 ⊢; rw [List.map_cons, if_neg c, List.map_cons, h4]; rfl
section
variable {F : Fr} {S L : Type} {δ : Dl} {δn : S → Dl} {δl : L → Dl} {t2 : TS} {i : Nat}
theorem SDo.putN {os : Os} {as : SA} {st : Sto} {γ : List (U × V)} {σ : L2.St} {H : Hp} {d k x d' : U} {y v : V} (Q : SDo F os as st γ H σ δ) (hd : δ[i]? = some (some (.own (.dct .leaf) d))) (e : putNU d k x = some d') (pk : im F.G (rts as) (ban F os as) k y H) (px : im F.G (rts as) (ban F os as) x v H) :
    ∃ a H', σ[i]? = some (some (.ref a)) ∧ NPut H a y v H' ∧ SDo F os as st γ H' σ (δ.set i (some (.own (.dct .leaf) d'))) := by
  obtain ⟨v0, e0, A, m, o⟩ := Q.get hd
  cases d with
  | dcN ks us =>
    obtain ⟨a, kvs, e1, e2, e3, l, hk, hv⟩ := own_dcN.mp o
    subst e1 e2
    simp only [putNU] at e
    split at e
    · rename_i hl
      have ll := nk8s_len l
      rw [List.length_map] at ll
      have nd : (kvs.map (·.1)).Nodup := by
        have := hl.2
        unfold ndN at this
        rw [l] at this
        exact of_decide_eq_true this
      cases ek : nk8 k with
      | none => rw [ek] at e; cases e
      | some key =>
        rw [ek] at e
        simp only at e
        cases k with
        | tup kus =>
          simp only at e
          obtain ⟨b, ws, rfl, hb, hw⟩ := id pk
          have hB : NK H b key := NK.of ek pk
          have hK : NKs H kvs := NKs.of l hk
          have hz : kvs.length < sizeLine := by omega
          refine ⟨a, _, e0, ⟨kvs, key, b, e3, hK, rfl, hB, hz, rfl⟩, ?_⟩
          have hi := idxN_mem (k := key) l
          refine Q.redo m e0 e3 (fun _ z => nomatch z) (fun _ _ z => nomatch z) fun t => ?_
          cases ei : idxN key ks with
          | some j =>
            rw [ei] at e
            cases e
            obtain ⟨h1, h2, h3, h4⟩ := hi.2 b v j ei nd
            refine own_dcN.mpr ⟨a, UX.putN kvs key b v, rfl, rfl, upd_same, ?_, ?_, ?_⟩
            · unfold UX.putN; rw [if_pos h1, h2]; exact l
            · have ee : nkA (UX.putN kvs key b v) = nkA kvs := by unfold UX.putN; rw [if_pos h1, h3]
              rw [ee]; exact t hk
            · have ee : nkV (UX.putN kvs key b v) = (nkV kvs).set j v := by unfold UX.putN; rw [if_pos h1, h4]
              rw [ee]; exact t (imAll_set hv px)
          | none =>
            rw [ei] at e
            cases e
            have h1 := hi.1 ei
            have n1 : ¬ (kvs.any fun x => decide (x.1 = key)) = true := by rw [h1]; exact fun z => nomatch z
            refine own_dcN.mpr ⟨a, UX.putN kvs key b v, rfl, rfl, upd_same, ?_, ?_, ?_⟩
            · unfold UX.putN; rw [if_neg n1, List.map_append]; exact nk8s_snoc ek l
            · have ee : nkA (UX.putN kvs key b v) = nkA kvs ++ [.ref b] := by unfold UX.putN nkA; rw [if_neg n1, List.map_append]; rfl
              rw [ee]; exact t (imAll_snoc hk pk)
            · have ee : nkV (UX.putN kvs key b v) = nkV kvs ++ [v] := by unfold UX.putN nkV; rw [if_neg n1, List.map_append]; rfl
              rw [ee]; exact t (imAll_snoc hv px)
        | _ => cases e
    · cases e
  | _ => cases e
end
section
variable {F : Fr} {δ : Dl}
end
def keysNW (w : M U) : M (List U) := .bind w fun u => .o (keysN u)
section
variable {F : Fr} {δ : Dl} {wi : TI} {g : TG} {tt : TT} {te : TE} {vs : List Nat} {wl : M (List U)}
end
section
variable {F : Fr} {S L : Type} {δ : Dl} {wi : TI} {g : TG} {tb : TS} {wl : M (List U)} {δl : S → Dl} {δ2 : L → Dl}
end
def un22 {α : Type} (u : U) (k : U → U → U → U → M α) : M α := match u with
  | .tup [.tup [a, b], .tup [c, d]] => k a b c d
  | _ => .fail
def un21 {α : Type} (u : U) (k : U → U → U → M α) : M α := match u with
  | .tup [.tup [a, b], c] => k a b c
  | _ => .fail
section
variable {F : Fr} {δ : Dl} {i j l m : Nat} {vs : List Nat}
end
end UX
namespace UX
open PySem PySem.Spec PyProof.Rows L2 UY
end UX
namespace UX
open PySem PySem.Spec PyProof.Rows L2 UY
open EL (Ex RB BOk Bn TK)
section
variable {F : Fr} {δ : Dl} {wi : TI} {g : TG} {tt : TT} {te : TE} {vs : List Nat} {wl : M (List U)}
end
section
variable {F : Fr} {S L : Type} {δ : Dl} {wi : TI} {g : TG} {tb : TS} {wl : M (List U)} {δl : S → Dl} {δ2 : L → Dl}
end
section
variable {X : Cx}
end
section
variable {F : Fr} {os : Os} {as as' : SA} {st st' : Sto} {γ : List (U × V)} {H H' : Hp} {σ : L2.St} {δ : Dl}
structure DSn (F : Fr) (os : Os) (k0 : Nat) (D : Addr) (as : SA) (st : Sto) (γ : List (U × V)) (H : Hp) (σ : L2.St) (δ : Dl) (d : U) : Prop where
  S : SDo F ((k0, [D]) :: os) as st γ H σ δ
  a : ∃ ks us kvs, d = .dcN ks us ∧ H D = some (DNo D kvs) ∧ nk8s ks = some (kvs.map (·.1)) ∧ imAll F.G (rts as) (ban F ((k0, [D]) :: os) as) ks (nkA kvs) H ∧ imAll F.G (rts as) (ban F ((k0, [D]) :: os) as) us (nkV kvs) H
variable {k0 : Nat} {D : Addr} {d : U}
theorem DSn.go (l : DSn F os k0 D as st γ H σ δ d) {σ' : L2.St} {δ' : Dl} (g : Go as as' H H') (S : SDo F ((k0, [D]) :: os) as' st' γ H' σ' δ') : DSn F os k0 D as' st' γ H' σ' δ' d := by
  have keep : ∀ o, H D = some o → H' D = some o := fun o e => g.rb.keep _ _ (fun m => (List.nodup_append.mp l.S.nd).2.2 D (List.mem_append_left _ List.mem_cons_self) D m rfl) e
  obtain ⟨ks, us, kvs, e, h, le, q1, q2⟩ := l.a
  exact ⟨S, ks, us, kvs, e, keep _ h, le, imAll_go g q1, imAll_go g q2⟩
theorem DSn.put (l : DSn F os k0 D as st γ H σ δ d) (hk : δ.length ≤ k0) {k x d' : U} {y v : V} (e : putNU d k x = some d') (pk : im F.G (rts as) (ban F ((k0, [D]) :: os) as) k y H) (px : im F.G (rts as) (ban F ((k0, [D]) :: os) as) x v H) :
    ∃ o, NPut H D y v (upd H D o) ∧ DSn F os k0 D as st γ (upd H D o) σ δ d' := by
  have upS : ∀ {o o' : HO}, H D = some o → (∀ xs, o ≠ .tup xs) → (∀ y u, o ≠ .frz y u) → SDo F ((k0, [D]) :: os) as st γ (upd H D o') σ δ ∧ ∀ {us : List U} {vs : List V}, imAll F.G (rts as) (ban F ((k0, [D]) :: os) as) us vs H → imAll F.G (rts as) (ban F ((k0, [D]) :: os) as) us vs (upd H D o') := fun {o o'} eD nt nf => by
    have c : Chg F ((k0, [D]) :: os) as H (upd H D o') k0 [D] [D] D := chg_same List.mem_cons_self List.mem_cons_self l.S eD nt nf
    have S := l.S.mut c (x := none) (fun _ z => nomatch z)
    have so := setOs_same l.S.ix (List.mem_cons_self (a := (k0, [D])) (l := os))
    rw [so] at S
    rw [List.set_eq_of_length_le hk] at S
    exact ⟨S, fun h => by have := c.imAll h; rw [so] at this; exact this⟩
  obtain ⟨ks, us, kvs, rfl, e3, le, hks, hvs⟩ := l.a
  simp only [putNU] at e
  split at e
  · rename_i hl
    have ll := nk8s_len le
    rw [List.length_map] at ll
    have nd : (kvs.map (·.1)).Nodup := by
      have := hl.2
      unfold ndN at this
      rw [le] at this
      exact of_decide_eq_true this
    cases ek : nk8 k with
    | none => rw [ek] at e; cases e
    | some key =>
      rw [ek] at e
      simp only at e
      cases k with
      | tup kus =>
        simp only at e
        obtain ⟨b, ws, rfl, hb, hw⟩ := id pk
        have hB : NK H b key := NK.of ek pk
        have hK : NKs H kvs := NKs.of le hks
        have hz : kvs.length < sizeLine := by omega
        obtain ⟨S, up⟩ := upS (o' := DNo D (UX.putN kvs key b v)) e3 (fun _ z => nomatch z) (fun _ _ z => nomatch z)
        refine ⟨_, ⟨kvs, key, b, e3, hK, rfl, hB, hz, rfl⟩, S, ?_⟩
        have hi := idxN_mem (k := key) le
        cases ei : idxN key ks with
        | some j =>
          rw [ei] at e
          cases e
          obtain ⟨h1, h2, h3, h4⟩ := hi.2 b v j ei nd
          refine ⟨_, _, UX.putN kvs key b v, rfl, upd_same, ?_, ?_, ?_⟩
          · unfold UX.putN; rw [if_pos h1, h2]; exact le
          · have ee : nkA (UX.putN kvs key b v) = nkA kvs := by unfold UX.putN; rw [if_pos h1, h3]
            rw [ee]; exact up hks
          · have ee : nkV (UX.putN kvs key b v) = (nkV kvs).set j v := by unfold UX.putN; rw [if_pos h1, h4]
            rw [ee]; exact up (imAll_set hvs px)
        | none =>
          rw [ei] at e
          cases e
          have h1 := hi.1 ei
          have n1 : ¬ (kvs.any fun x => decide (x.1 = key)) = true := by rw [h1]; exact fun z => nomatch z
          refine ⟨_, _, UX.putN kvs key b v, rfl, upd_same, ?_, ?_, ?_⟩
          · unfold UX.putN; rw [if_neg n1, List.map_append]; exact nk8s_snoc ek le
          · have ee : nkA (UX.putN kvs key b v) = nkA kvs ++ [.ref b] := by unfold UX.putN nkA; rw [if_neg n1, List.map_append]; rfl
            rw [ee]; exact up (imAll_snoc hks pk)
          · have ee : nkV (UX.putN kvs key b v) = nkV kvs ++ [v] := by unfold UX.putN nkV; rw [if_neg n1, List.map_append]; rfl
            rw [ee]; exact up (imAll_snoc hvs px)
      | _ => cases e
  · cases e
end
section
variable {F : Fr} {δ : Dl} {wi : TI} {g : TG} {tt : TT} {tk tv : TE} {vs : List Nat} {wl : M (List U)}
end
section
variable {X : Cx} {pins : List (Addr × Obj)} {σ : L2.St} {H : Hp} {s : Shared}
end
section
variable {G : Cxt} {rs : List Addr} {B : Bn} {H : Hp}
end
section
variable {F : Fr} {S L : Type} {δ : Dl} {δn : S → Dl} {δl : L → Dl} {t2 : TS} {i : Nat} {tx : TE}
end
section
variable {X : Cx}
end
section
variable {X : Cx}
end
section
variable {F : Fr} {S L : Type} {δ : Dl} {δn : S → Dl} {δl : L → Dl} {t2 : TS} {i : Nat} {tx : TE}
end
section
variable {F : Fr} {W : WX} {S L : Type} {δ δx : Dl} {tb : TS} {δl : S → Dl} {δ2 : L → Dl}
end
section
variable {F : Fr} {S L : Type} {δ : Dl} {g : TG} {tb : TS} {td : TE} {wd : M U} {δ2 : L → Dl}
end
section
variable {X : Cx} {CX : CXT} {k : Nat} {f : Addr} {fd : FuncData} {ps : List Str} {sp : Sp} {E : L2.St → XK} {x : Str} {p pos : Pos} {e : Expr} {es : List Expr} {t : TA} {ds : List Value} {dvs : List V}
end
section
variable {F : Fr} {W : WX} {δ : Dl} {ta : TA} {wa : M (List U)}
end
end UX
namespace UX
open PySem PySem.Spec PyProof.Rows L2
open EL (Ex RB BOk Bn TK)
section
variable {F : Fr} {S L : Type} {δ δx : Dl} {δn : S → Dl} {δl : L → Dl}
end
section
variable {F : Fr} {W : WX} {te : TE} {δ : Dl} {w : M U}
theorem EvRs.plain (h : EvRs F W te δ w) : EvW F te δ w := fun os as st γ σ H c st' S q QQ k => h os as st γ σ H (.ok c) st' S q QQ k
end
end UX
namespace UX
open PySem PySem.Spec PyProof.Rows L2
open EL (Ex RB BOk Bn TK gStarLast)
section
variable {F : Fr} {S L : Type} {δ : Dl} {te : TE} {t2 : TS} {w : M U} {δn : S → Dl} {δl : L → Dl}
end
end UX
namespace UX
open PySem PySem.Spec PyProof.Rows L2
open EL (Ex RB BOk Bn TK)
section
variable {F : Fr} {W : WX} {S S1 L : Type} {δ δx δ2 : Dl} {te ta tb tc : TE} {tt tu : TT} {w wa wb wc : M U} {wt wu : M Bool} {t t1 t2 : TS} {δn : S → Dl} {δl : L → Dl}
end
section
variable {F : Fr} {W : WX} {S L : Type} {δ δx : Dl} {wi : TI} {g : TG} {tb : TS} {wl : M (List U)} {δl : S → Dl} {δ2 : L → Dl}
end
section
variable {F : Fr} {W : WX} {δ : Dl} {te : TE} {wa : M U}
end
end UX
namespace UY
open PySem PySem.Spec PyProof.Rows L2
end UY
namespace UX
open PySem PySem.Spec PyProof.Rows L2 UY
open EL (Ex RB BOk Bn TK)
section
variable {F : Fr} {δ : Dl} {ta tb tc : TE} {wa wb wc : M U}
end
end UX
namespace UY
open PySem PySem.Spec PyProof.Rows L2 UX
open EL (Ex RB BOk Bn TK rSlU cut)
section
variable {X : Cx}
end
section
variable {F : Fr}
end
end UY
namespace UX
open PySem PySem.Spec PyProof.Rows L2
open EL (Ex RB BOk Bn TK FnG okG)
section
variable {K : PySem.W.Frag} {C : Addr} {c f : Str}
theorem oexB_ok (h : oexB K C = true) : OexC K C := by
  unfold oexB at h
  simp only [Bool.and_eq_true] at h
  obtain ⟨h0, h1, h2, h3, h4⟩ := h
  refine ⟨?_, He.eqO_ok h1, of_decide_eq_true h2, of_decide_eq_true h3, h4⟩
  split at h0
  · rename_i dd cd sl ho
    split at h0
    · rename_i C' bm k0 k1 k2 k3 n k5 hm hs
      simp only [Bool.and_eq_true, decide_eq_true_eq, Bool.not_eq_true'] at h0
      obtain ⟨rfl, rfl, hdel, hd, hb⟩ := h0
      obtain ⟨nm, bs, mro, ns, qn, hd', sn, sub, ab, col, del⟩ := cd
      dsimp only at hm hdel hd
      subst hm hdel hd
      obtain ⟨l⟩ := sl
      simp only at hs
      subst hs
      exact ⟨nm, qn, ns, bs, bm, sn, sub, ab, col, dd, k0, k1, k2, k3, k5, ho, hb⟩
    · cases h0
  · cases h0
theorem oex_ok (h : (FaX.oex c).ok K = true) : OexC K (He.ga K c) := oexB_ok h
structure ExI (K : PySem.W.Frag) (C f : Addr) : Prop where
  ii : PySem.W.findIn K (.ref C) "__init__" = some (some (.ref f))
  ti : PySem.W.typeIn K (.ref f) = some (.type "function")
theorem exi_ok (h : (FaX.exi c).ok K = true) : ExI K (He.ga K c) (He.ma K (He.ga K c) "__init__") := by
  obtain ⟨h1, h2⟩ := He.ba h
  exact ⟨He.eqO_ok h1, of_decide_eq_true h2⟩
theorem noa_ok (h : (FaX.noa c f).ok K = true) : PySem.W.findIn K (.ref (He.ga K c)) f = some none := He.eqO_ok h
structure EBs (K : PySem.W.Frag) (C : Addr) : Prop where
  rd : PySem.W.readsIn K C (.type "type") = true
  ga : PySem.W.specialIn K (.ref C) "__getattribute__" = some (some (.builtin "type.__getattribute__"))
  fc : PySem.W.findCls K (.ref C) (.type "type") "__init__" = some (.val (.builtin "ValueError.__init__"))
theorem ebs_ok (h : (FaX.ebs c).ok K = true) : EBs K (He.ga K c) := by
  obtain ⟨h1, h⟩ := He.ba h
  obtain ⟨h2, h3⟩ := He.ba h
  refine ⟨h1, He.eqO_ok h2, ?_⟩
  split at h3
  · rename_i n e
    rw [e, of_decide_eq_true h3]
  · cases h3
end
section
variable {X : Cx} {e : Expr} {es : List Expr} {ta : TA} {B : Str} {CB : Addr} {p p1 p2 pos : Pos}
theorem pe_obinit {pl : Sem Bool} (T : EBs X.K CB) (hg : Gl X B) (hm : X.mg B = some (.ref CB)) (ha : PA X (e :: es) ta) (hdb : (B == ("__debug__" : Str)) = false := by decide)
    (hc : eval (.Call (.Attribute (.Name B p1) "__init__" p2) (e :: es) [] pos) X.env = (do
      let ov ← eval (.Name B p1) X.env
      standAt p2.atName
      let (g, one) ← holding [ov] (getMethod ov "__init__" pl)
      callWith pos g one (backTo pos (starEach (e :: es) X.env)) (backToKw pos (keywordEach [] X.env))) := by rfl)
    (he : starEach (e :: es) X.env = (false, eval e X.env) :: starEach es X.env := by rfl) (hpl : (backTo pos (starEach es X.env)).any (·.1) = false := by rfl) :
    PE X (.Call (.Attribute (.Name B p1) "__init__" p2) (e :: es) [] pos) (tVeI X.K ta) := by
  refine ⟨fun pins s σ H Q I h => PySem.W.methodCall_KW (ld_glob I hg hm ?_ hdb) hc⟩
  refine PySem.W.method_cls I.kIn T.ga (PySem.W.cls_value I.kIn T.rd T.fc rfl ?_)
  have I' := I.tok (t := s.toks + 1)
  show wpAny _ _ (callWith pos (Value.builtin "ValueError.__init__") [] (backTo pos (starEach (e :: es) X.env)) []) _ _ _
  refine PyProof.Rows.callWith_method1 (thn (ha.run pos pins _ σ H _ (I'.tok _) h) fun us s1 ⟨vs, H1, I1, rr, a, C, ws, ev, hl, Z, ea, q⟩ => ?_) he hpl
  cases ev
  cases rr with
  | @cons _ u0 _ ur ra rw' =>
    obtain rfl : u0 = Value.ref a := ra
    exact oinit_ok Z I1 ea (by rw [← Paired.length rw', sizeLine_eq]; omega) fun s' J => ⟨.non, H1, J, rfl, q⟩
end
def spEI (K : PySem.W.Frag) (f : Str) : Sp := fun vs H Q _ => ∃ (a C : Addr) (y : V), vs = [.ref a, y] ∧ OexC K C ∧ PySem.W.findIn K (.ref C) f = some none ∧ H a = some (exo a C none) ∧ ∀ dx, H dx = none → dx ≠ a → Q .non (upd (upd H dx (exd dx [(f, y)])) a (exo a C (some dx)))
section
variable {P : Program} {w : World} {K : PySem.W.Frag} {mg : Str → Option Value} {bs : Heap} {x qu f y : Str} {pa : Arguments} {bo : List Stmt} {sc : Scope} {dv : List V} {kw : List (Str × V)} {fa : Addr} {fd : FuncData} {N : List Str} {p1 : Str}
theorem fn_ei {k : Nat} (Fd : FunD K x qu pa bo sc dv kw fa fd) (Sc : FnScope N ["self", p1] sc) (hN : N.length = 2 ∨ N.length = 3)
    (hb : ∀ (cv : Value) (A : Around) (o : List Env) (s : Shared) (H : Hp) (E : XK), Room k (A.deeper (envOfC qu sc s.heap.objs.size fa cv)) →
      PSs (cxOf CX0 P w K mg bs N qu sc fa cv A o s H E) bo (tSeq (tDrop (tVeI K (tCons (tVar 0) (tCons (tC (.str y)) tNil)))) (tOst K f (tVar 0) (tVar 1)))) :
    FnOk P w K mg bs CX0 (k + 1) fa fd ["self", p1] (spEI K f) := by
  refine Fd.ok Sc (fun vs H Q E h => ?_) fun cv A o s H vs Q E rm hsp => ?_
  · obtain ⟨a, C, z, rfl, _⟩ := h
    rfl
  · obtain ⟨a, C, z, rfl, T, no, ha, q⟩ := hsp
    refine ⟨_, hb cv A o s H E rm, ?_⟩
    have s0 : (start N [V.ref a, z])[0]? = some (some (.ref a)) := rfl
    have s1 : (start N [V.ref a, z])[1]? = some (some z) := rfl
    refine ⟨.ref a, s0, a, C, [.str y], rfl, (show 1 ≤ 1000 by decide), T, ha, ?_⟩
    exact ⟨z, s1, .ref a, s0, a, C, rfl, T, no, .inl ⟨ha, fun dx n ne => q dx n ne⟩⟩
end
section
variable {F : Fr} {W : WX} {S L : Type} {δ δx : Dl} {te : TE} {w : M U} {δn : S → Dl} {δl : L → Dl}
theorem blkx_raiseO {C f : Str} (T : OexC F.G.K (F.G.at_ C)) (no : PySem.W.findIn F.G.K (.ref (F.G.at_ C)) f = some none) (hx : EvW F te δ w) (hw : Weak δ δx) :
    BlkX F W (fun _ σ H => tMkO (F.G.at_ C) (spEI F.G.K f) [] (tCons te tNil) σ H fun cls d H' => W cls d σ H') δ (.bind w fun u => .ret (.rt (exO C f u)) : M (Out S L)) δn δl δx := fun D os as st γ σ H o st' Q q P => by
  obtain ⟨u, st1, qu, q⟩ := M.bind_inv q
  cases q
  refine hx os as st γ σ H u _ Q qu _ fun y H1 as1 g1 S1 py => ?_
  refine ⟨(show 1 ≤ 1000 by decide), fun a ha => ?_⟩
  refine ⟨a, F.G.at_ C, y, rfl, T, no, upd_same, fun dx hn ne => ?_⟩
  have h1 : H1 dx = none := by rw [upd_ne ne] at hn; exact hn
  refine ⟨rfl, dx, [(f, y)], upd_same, by rw [upd_ne ne, upd_same], h1, ?_⟩
  have eH : upd (del (upd (upd (upd H1 a (exo a (F.G.at_ C) none)) dx (exd dx [(f, y)])) a (exo a (F.G.at_ C) (some dx))) a) dx (.xd [(f, y)]) = upd H1 dx (.xd [(f, y)]) := by
    funext b
    by_cases hb : b = dx
    · rw [hb, upd_same, upd_same]
    · rw [upd_ne hb, upd_ne hb]
      by_cases hc : b = a
      · rw [hc, del_same, ha]
      · rw [del_ne hc, upd_ne hc, upd_ne hb, upd_ne hc]
  rw [eH]
  have S2 := S1.ex (Ex.new h1 (o := .xd [(f, y)]))
  exact P os as1 σ _ _ _ (S2.weak hw) ⟨rfl, dx, y, rfl, S1.notban h1, .inl upd_same, im_st (RB.of_ex (Ex.new h1)) _ _ py⟩
end
def tMakeS (C : Addr) (sp : Sp) (E : L2.St → XK) (t : TA) : TE := fun σ H Q => t σ H fun vs H1 => ∀ x dx, H1 x = none → H1 dx = none → dx ≠ x →
  sp (.ref x :: vs) (upd (upd H1 dx (.own x)) x (.ins C dx [])) (fun v H2 => v = .non ∧ Q (.ref x) H2) (E σ)
section
variable {X : Cx} {CX : CXT} {k : Nat} {f C : Addr} {fd : FuncData} {ps : List Str} {sp : Sp} {E : L2.St → XK} {x : Str} {p pos : Pos} {e : Expr} {es : List Expr} {t : TA}
theorem pe_makeS (M : Mk X.K C f) (F : FnOk X.prog X.w X.K X.mg X.base CX k f fd ps sp) (rm : Room (k + 1) X.A) (hg : Gl X x) (hm : X.mg x = some (.ref C)) (bd : Binds X.K fd ps []) (hx : ∀ σ, PassesAt CX X σ (E σ))
    (ha : PA X (e :: es) t) (d1 : (x == ("__debug__" : Str)) = false := by decide) (d2 : starEach (e :: es) X.env = (false, eval e X.env) :: starEach es X.env := by rfl) (d3 : (backTo pos (starEach es X.env)).any (·.1) = false := by rfl) :
    PE X (.Call (.Name x p) (e :: es) [] pos) (tMakeS C sp E t) := by
  refine ⟨fun pins s σ H Q I h => wpAny_Call_Name_kw (ld_glob I hg hm ?_ d1)⟩
  refine PySem.W.callWith_K (h₀ := X.base) I.ok.mod.kin M.kp (thn (ha.run pos pins s σ H _ I h) ?_) d2 d3
  rintro us s1 ⟨vs, H1, I1, rv, q⟩
  refine ⟨I1.kIn, ?_⟩
  have sz := s1.heap.objs.size
  have q2 := q (s1.heap.objs.size + 1) s1.heap.objs.size (I1.hok.fresh (Nat.le_succ _)) (I1.hok.fresh (Nat.le_refl _)) (Nat.ne_of_lt (Nat.lt_succ_self _))
  have I2 := Inv.made (C := C) I1
  have r2 : Vals (V.ref (s1.heap.objs.size + 1) :: vs) (Value.ref (s1.heap.objs.size + 1) :: us) := .cons rfl rv
  have hl : (Value.ref (s1.heap.objs.size + 1) :: us).length = ps.length := r2.length.symm.trans (F.len _ _ _ _ q2)
  have bb := bd _ (Value.ref (s1.heap.objs.size + 1) :: us) I2.kIn (by rw [List.append_nil]; exact hl)
  rw [List.append_nil] at bb
  refine wpAny_call (make_map (f := f) I1.kIn M.makes M.init (beq_iff_eq.mp M.fn) (codeAny_mono (F.run _ X.stack _ _ ⟨Value.ref (s1.heap.objs.size + 1) :: us, []⟩ (Value.ref (s1.heap.objs.size + 1) :: us) _ _ (E σ) (rm.make C us []) (I2.env0.make C us []) bb r2 q2) fun r s' hq => ?_))
  match r, hq with
  | .error er, hq => exact hx σ pins _ _ er s' I2 hq
  | .ok (.ret u), hq =>
    obtain ⟨v, H', I3, rv, rfl, q3⟩ := I2.after hq
    exact ⟨rv, ⟨V.ref (s1.heap.objs.size + 1), H', I3, rfl, q3⟩⟩
end
def nlE : U → Bool
  | .str _ => true
  | .exo _ _ u => nlU u
  | _ => false
def mkX (c : Str) (f : List U → M U) (wa : M (List U)) : M U := fun st => match wa st with
  | some (.ok us, st1) => (match f (.loc st1.length :: us) (opq st1 ++ [.obj c [] []]) with
    | some (.ok .non, st') => (match st'[st1.length]? with
      | some u => if nlU u = true then some (.ok u, st1) else none
      | none => none)
    | some (.er e, _) => if nlE e = true then some (.er e, st1) else none
    | _ => none)
  | _ => none
section
variable {F : Fr} {W : WX} {δ : Dl} {ta : TA} {wa : M (List U)} {f : List U → M U} {c : Str}
theorem evx_make (h : EvAW F ta δ wa) : EvRs F W (tMakeS (F.G.at_ c) (spX F.G f) (WE W) ta) δ (mkX c f wa) := fun os as st γ σ H r st' S q QQ k => by
  cases ea : wa st with
  | none => unfold mkX at q; rw [ea] at q; cases q
  | some p0 =>
    obtain ⟨r1, st1⟩ := p0
    unfold mkX at q
    rw [ea] at q
    match r1, q, ea with
    | .ok us, q, ea =>
      refine h os as st γ σ H us st1 S ea _ fun vs H1 as1 g1 S1 pv x dx hx hdx ne => ?_
      have q : (match f (.loc st1.length :: us) (opq st1 ++ [.obj c [] []]) with
        | some (.ok .non, st') => (match st'[st1.length]? with
          | some u => if nlU u = true then some (.ok u, st1) else none
          | none => none)
        | some (.er e, _) => if nlE e = true then some (.er e, st1) else none
        | _ => none) = some (r, st') := q
      have hH : Ex H1 (upd (upd H1 dx (.own x)) x (.ins (F.G.at_ c) dx [])) := (Ex.new hdx).trans (Ex.new (by rw [upd_ne ne.symm]; exact hx))
      have fle : fl ((as1.map fun p => (p.1, [])) ++ [(x, [x])]) = [x] := by
        have := fl_opq as1
        unfold fl at this ⊢
        rw [List.map_append, List.flatten_append, this]
        rfl
      have rle : rts ((as1.map fun p => (p.1, [])) ++ [(x, [x])]) = rts as1 ++ [x] := by
        have := rts_opq as1
        unfold rts at this ⊢
        rw [List.map_append, this]
        rfl
      have rlen : (rts as1).length = st1.length := by unfold rts; rw [List.length_map]; exact S1.sto.len
      have rsx : ∀ (i : Nat) (b : Addr), (rts as1)[i]? = some b → (rts as1 ++ [x])[i]? = some b := fun i b e => by
        rw [List.getElem?_append_left (getElem?_lt e)]; exact e
      have ab : ∀ (H0 : Hp) (as0 : SA) a, ban ⟨F.G, ban F os as1, H0, as0, noR⟩ [] ((as1.map fun p => (p.1, [])) ++ [(x, [x])]) a → ban F os as1 a ∨ a = x := by
        rintro H0 as0 a (h | h | h)
        · exact .inl h
        · cases h
        · rw [fle, List.mem_singleton] at h; exact .inr h
      have nbx : ¬ ban F os as1 x := S1.notban hx
      have up : ∀ (H0 : Hp) (as0 : SA) u v, im F.G (rts as1) (ban F os as1) u v H1 → im F.G (rts ((as1.map fun p => (p.1, [])) ++ [(x, [x])])) (ban ⟨F.G, ban F os as1, H0, as0, noR⟩ [] ((as1.map fun p => (p.1, [])) ++ [(x, [x])])) u v (upd (upd H1 dx (.own x)) x (.ins (F.G.at_ c) dx [])) := fun H0 as0 u v h => by
        rw [rle]
        have h1 : im F.G (rts as1) (fun a => ban F os as1 a ∨ a = x) u v H1 := im_sub (fun a n b => b.elim id fun z => absurd (z ▸ hx) n) _ _ h
        exact im_sub (fun a _ b => ab H0 as0 a b) _ _ (im_st (RB.of_ex hH) _ _ (im_rs rsx _ _ h1))
      obtain ⟨pr, e⟩ : ∃ pr, f (.loc st1.length :: us) (opq st1 ++ [.obj c [] []]) = some pr := by
        cases e : f (.loc st1.length :: us) (opq st1 ++ [.obj c [] []]) with
        | none => rw [e] at q; cases q
        | some pr => exact ⟨pr, rfl⟩
      rw [e] at q
      obtain ⟨r2, st2⟩ := pr
      refine ⟨ban F os as1, (as1.map fun p => (p.1, [])) ++ [(x, [x])], opq st1 ++ [.obj c [] []], .loc st1.length :: us, r2, st2, fun a b => ?_, by rw [fle]; simp, fun a m => ?_, ?_, ⟨.ref x, vs, rfl, ⟨x, ?_, rfl⟩, imAll_map (up _ _) pv⟩, e, ?_⟩
      · rcases ab _ _ a b with z | z
        · exact (Go.of_ex (as := as1) hH).alive (S1.ok a z)
        · rw [z, upd_same]; exact fun q => nomatch q
      · rw [fle, List.mem_singleton] at m; rw [m]; exact nbx
      · refine StOk.snoc ?_ ?_
        · exact ⟨x, dx, [], [], rfl, rfl, upd_same, rfl, rfl, rfl⟩
        · have := StOk.opq (G := F.G) (B := ban ⟨F.G, ban F os as1, upd (upd H1 dx (.own x)) x (.ins (F.G.at_ c) dx []), (as1.map fun p => (p.1, [])) ++ [(x, [x])], noR⟩ [] ((as1.map fun p => (p.1, [])) ++ [(x, [x])])) (H := upd (upd H1 dx (.own x)) x (.ins (F.G.at_ c) dx [])) as1 st1 S1.sto.len
          rw [rle]
          exact StOk.mono (fun u v h => im_rs rsx _ _ h) (fun _ _ h => h) (fun _ _ => rfl) this
      · rw [rle, ← rlen, List.getElem?_append_right (Nat.le_refl _), Nat.sub_self]; rfl
      · match r2, e, q with
        | .ok .non, e, q =>
          intro as' v H' rr
          have q : (match st2[st1.length]? with | some u => if nlU u = true then some (Res.ok u, st1) else none | none => none) = some (r, st') := q
          cases eu : st2[st1.length]? with
          | none => rw [eu] at q; cases q
          | some u =>
            rw [eu] at q
            simp only at q
            by_cases hn : nlU u = true
            · rw [if_pos hn] at q
              cases q
              refine ⟨rr.im, ?_⟩
              have ex : Ex H1 H' := fun a o h => rr.rel.rb.keep a o (by
                show a ∉ fl _
                rw [fle, List.mem_singleton]
                exact fun z => by rw [z, hx] at h; cases h) (hH a o h)
              obtain ⟨pp, ep⟩ : ∃ pp, as'[st'.length]? = some pp := by
                have : st'.length < as'.length := by rw [rr.sto.len]; exact getElem?_lt eu
                exact ⟨_, List.getElem?_eq_getElem this⟩
              have hroot : pp.1 = x := by
                have h1 := rr.rel.pre st'.length x (by rw [show rts _ = rts as1 ++ [x] from rle, ← rlen, List.getElem?_append_right (Nat.le_refl _), Nat.sub_self]; rfl)
                unfold rts at h1
                rw [List.getElem?_map, ep] at h1
                exact Option.some.inj h1
              have oc := rr.sto.get ep eu
              rw [hroot] at oc
              have nA : ∀ a ∈ pp.2, ¬ ban F os as1 a := fun a m => rr.nb a (mem_fl (List.mem_of_getElem? ep) m)
              have oc2 : ownC F.G (rts as') (ban F os as1) u (.ref x) H' pp.2 := ownC_mono (fun u v h => im_sub (fun a _ b => .inl b) _ _ h) _ _ _ (fun _ _ => rfl) oc
              exact k (.ref x) H' as1 (g1.trans (Go.of_ex ex)) (S1.ex ex) (im_nl _ _ hn (ownC_im nA oc2))
            · rw [if_neg hn] at q; cases q
        | .er er, e, q =>
          intro as' H' cls d rr
          have q : (if nlE er = true then some ((Res.er er : Res U), st1) else none) = some (r, st') := q
          by_cases hn : nlE er = true
          · rw [if_pos hn] at q
            cases q
            have ex : Ex H1 H' := fun a o h => rr.rel.rb.keep a o (by
              show a ∉ fl _
              rw [fle, List.mem_singleton]
              exact fun z => by rw [z, hx] at h; cases h) (hH a o h)
            refine k H' as1 cls d (g1.trans (Go.of_ex ex)) (S1.ex ex) ?_
            have pe := rr.pay
            cases er with
            | str c2 => exact pe
            | exo c2 f2 u2 =>
              obtain ⟨e1, dd, w, e2, n2, hd, hi⟩ := pe
              exact ⟨e1, dd, w, e2, fun b => n2 (.inl b), hd, im_nl _ _ hn (im_sub (fun a _ b => .inl b) _ _ hi)⟩
            | _ => exact pe.elim
          · rw [if_neg hn] at q; cases q
end
def tXfK (K : PySem.W.Frag) (f : Str) (te : TE) : TE := fun σ H Q => te σ H fun x H1 => ∃ (a dd C : Addr) (fs : List (Str × V)) (v : V), x = .ref a ∧ Rd H1 a (ExKD C a dd) ∧ Rd H1 dd (.xd fs) ∧ ExcC K C ∧ PySem.W.findIn K (.ref C) f = some none ∧ fs.lookup f = some v ∧ Q v H1
theorem pe_xfK {X : Cx} {e : Expr} {te : TE} {pos : Pos} {n : Str} (he : PE X e te) (hb : attributeBase e n X.env (eval e X.env) = eval e X.env := by rfl) : PE X (.Attribute e n pos) (tXfK X.K n te) := by
  refine ⟨fun pins s σ H Q I h => attr_of hb (thn (he.run pins s σ H _ I h) ?_)⟩
  rintro u s1 ⟨x, H1, I1, rx, a, dd, C, fs, v, rfl, ha, hd, T, no, l, q⟩
  obtain rfl : u = Value.ref a := rx
  have key : ∃ (oe : Obj) (vs : Array Value), s1.heap.get? a = some oe ∧ (oe.cls = .ref C ∧ oe.dict = some dd) ∧ oe.data = .fields vs := by
    rcases ha with h | ⟨o, h⟩
    · exact (I1.hok a _ h).1
    · exact (I1.hok a _ h).2.1
  have kx : ∃ mA, s1.heap.Ns1 dd mA ∧ ∀ f, RelO (fs.lookup f) (mA f) := by
    rcases hd with hx | ⟨o, hx⟩
    · exact I1.hok dd _ hx
    · exact (I1.hok dd _ hx).2
  obtain ⟨oe, vs, he, hz, hv⟩ := key
  obtain ⟨mA, hns, hr⟩ := kx
  obtain ⟨od, ho, hl⟩ := lookIn_ns hns
  obtain ⟨u, hu, ru⟩ := RelO.some_of (v := v) (o := mA n) (by rw [← l]; exact hr n)
  have J : PySem.W.InstAt s1.heap a oe C (some od) := ⟨he, hz.1, by unfold PySem.W.notCls; rw [hv], by rw [hz.2]; exact ho⟩
  exact HandSPX.exc_get I1.kIn J T.hg T.hk T.hs (PySem.W.findObj_own T.hd no rfl (by rw [hl, hu])) (handed_of ru) ⟨v, H1, I1.tok _, ru, q⟩
def xfU (tab : Str → Option Bool) (f : Str) : U → Option U
  | .exo c g u => if g = f ∧ tab c = some true then some u else none
  | _ => none
section
variable {F : Fr} {δ : Dl} {te : TE} {w : M U}
theorem ev_xf {f : Str} {tab : Str → Option Bool} (hC : ∀ c b, tab c = some b → b = true → ExcC F.G.K (F.G.at_ c) ∧ PySem.W.findIn F.G.K (.ref (F.G.at_ c)) f = some none) (ha : EvR F te δ w) : EvW F (tXfK F.G.K f te) δ (op1 (xfU tab f) w) := fun os as st γ σ H r st' S q QQ k => by
  obtain ⟨a, st1, qa, q⟩ := M.bind_inv q
  obtain ⟨e, rfl⟩ := M.o_inv q
  refine ha os as st γ σ H a _ S qa _ fun x H1 as1 g1 S1 px => ?_
  cases a with
  | exo c g u => ?_
  | _ => exact nomatch e
  have e : (if g = f ∧ tab c = some true then some u else none) = some r := e
  by_cases h : g = f ∧ tab c = some true
  · have eu : u = r := Option.some.inj ((if_pos h).symm.trans e)
    subst eu
    obtain ⟨rfl, ht⟩ := h
    obtain ⟨a, dd, w, rfl, _, _, h1, h2, hi⟩ := px
    obtain ⟨T, no⟩ := hC c true ht rfl
    exact ⟨a, dd, F.G.at_ c, _, w, rfl, h1, h2, T, no, by simp [List.lookup], k w H1 as1 g1 S1 hi⟩
  · exact nomatch (if_neg h).symm.trans e
end
end UX
namespace UX
open PySem PySem.Spec PyProof.Rows L2
open EL (Ex RB BOk Bn TK)
section
variable {F : Fr} {δ : Dl} {te : TE} {tl th : TO} {wa : M U} {wl wh : M (Option Int)}
end
section
variable {F : Fr} {δ : Dl} {ta tb tc : TE} {wa wb wc : M U}
end
section
variable {X : Cx}
end
section
variable {F : Fr} {δ : Dl} {ta tb : TE} {wa wb : M U}
end
section
variable {F : Fr} {δ : Dl} {ta tb : TE} {wa wb : M U}
end
section
variable {X : Cx}
end
section
variable {F : Fr} {S L : Type} {δ : Dl} {te : TE} {t2 : TS} {w : M U} {δn : S → Dl} {δl : L → Dl}
end
end UX
namespace UX
open PySem PySem.Spec PyProof.Rows L2
end UX
namespace UX
open PySem PySem.Spec PyProof.Rows L2
open EL (Ex RB BOk Bn TK)
def tMk (tk : L2.St → Hp → XK → Prop) : TE := fun σ H Q => tk σ H fun cls d H' => ∃ C, cls = .ref C ∧ ∀ a, H' a = none → Q (.ref a) (upd H' a (ExKo C a d))
section
variable {X : Cx} {tk : L2.St → Hp → XK → Prop} {e : Expr}
theorem pe_mk (hex : X.ex = []) (he : PMk X e tk) : PE X e (tMk tk) := by
  refine ⟨fun pins s σ H Q I h => ?_⟩
  refine wpAny_mono (he pins s σ H _ I h) (fun u s' hu => ?_) fun _ _ x => x
  obtain ⟨a, oe, vs, sI, H', cls, d, rfl, J, k, hne, ha, hz, hd, h1, na, os, ag, r, C, rfl, q⟩ := hu
  have J1 : Inv X pins σ H' { sI with heap := s'.heap, toks := sI.toks } := J.kept k
  have J2 : Inv X pins σ H' s' := ⟨J1.ok, os.trans J1.os, ag, J1.base, J1.loc, J1.cell, J1.free, J1.freeC, J1.pin, J1.hok, J1.len⟩
  have n0 : X.s_0.heap.get? a = none := by
    cases e0 : X.s_0.heap.get? a with
    | none => rfl
    | some o =>
      obtain ⟨o', ho'⟩ := J.base.there a o e0 (by rw [hex]; exact fun z => nomatch z)
      rw [hne] at ho'; cases ho'
  have nL : a ≠ X.env.locals := fun z => by
    obtain ⟨m, ⟨o', es, ep, ho', _⟩, _⟩ := J.loc
    rw [← z, hne] at ho'; cases ho'
  have nP : ∀ p ∈ X.pn ++ pins, p.1 ≠ a := fun p hp z => by
    have := (J.pin p hp).1
    rw [z, hne] at this; cases this
  exact ⟨.ref a, _, J2.adopt hex n0 na ha hz hd nL nP, rfl, q a na⟩
end
section
variable {F : Fr} {δ : Dl} {te : TE} {w : M U}
theorem ev_mk0 {C : Str} {tk : L2.St → Hp → XK → Prop} (ht : ∀ σ H Q, Q (.ref (F.G.at_ C)) none H → tk σ H Q) : EvW F (tMk tk) δ (.ret (.exc C)) := fun os as st γ σ H r st' S q QQ k => by
  cases q
  refine ht σ H _ ⟨F.G.at_ C, rfl, fun a na => ?_⟩
  exact k (.ref a) _ as (Go.of_ex (Ex.new na)) (S.ex (Ex.new na)) ⟨a, rfl, S.notban na, .inl upd_same⟩
theorem ev_mkO {C f : Str} (T : OexC F.G.K (F.G.at_ C)) (no : PySem.W.findIn F.G.K (.ref (F.G.at_ C)) f = some none) (hx : EvW F te δ w) :
    EvW F (tMk (tMkO (F.G.at_ C) (spEI F.G.K f) [] (tCons te tNil))) δ (.bind w fun u => .ret (.exo C f u)) := fun os as st γ σ H r st' S q QQ k => by
  obtain ⟨u, st1, qu, q⟩ := M.bind_inv q
  cases q
  refine hx os as st γ σ H u _ S qu _ fun y H1 as1 g1 S1 py => ?_
  refine ⟨(show 1 ≤ 1000 by decide), fun a ha => ?_⟩
  refine ⟨a, F.G.at_ C, y, rfl, T, no, upd_same, fun dx hn ne => ?_⟩
  have h1 : H1 dx = none := by rw [upd_ne ne] at hn; exact hn
  refine ⟨rfl, dx, [(f, y)], upd_same, by rw [upd_ne ne, upd_same], h1, F.G.at_ C, rfl, fun a2 na2 => ?_⟩
  have eH : upd (del (upd (upd (upd H1 a (exo a (F.G.at_ C) none)) dx (exd dx [(f, y)])) a (exo a (F.G.at_ C) (some dx))) a) dx (.xd [(f, y)]) = upd H1 dx (.xd [(f, y)]) := by
    funext b
    by_cases hb : b = dx
    · rw [hb, upd_same, upd_same]
    · rw [upd_ne hb, upd_ne hb]
      by_cases hc : b = a
      · rw [hc, del_same, ha]
      · rw [del_ne hc, upd_ne hc, upd_ne hb, upd_ne hc]
  rw [eH] at na2 ⊢
  have n2 : a2 ≠ dx := fun z => by rw [z, upd_same] at na2; cases na2
  have S2 := S1.ex (Ex.new h1 (o := .xd [(f, y)]))
  have S3 := S2.ex (Ex.new na2 (o := ExKD (F.G.at_ C) a2 dx))
  exact k (.ref a2) _ as1 (g1.trans ((Go.of_ex (Ex.new h1)).trans (Go.of_ex (Ex.new na2)))) S3
    ⟨a2, dx, y, rfl, S2.notban na2, S1.notban h1, .inl upd_same, .inl (by rw [upd_ne (Ne.symm n2)]; exact upd_same), im_st (RB.of_ex ((Ex.new h1).trans (Ex.new na2))) _ _ py⟩
end
end UX
namespace UX
open PySem PySem.Spec PyProof.Rows L2 UY
open EL (Ex RB BOk Bn TK)
section
variable {P : Program} {w : World} {H : Hp} {h : Heap} {G : Cxt} {rs : List Addr} {B : Bn}
end
section
end
section
variable {X : Cx} {CX : CXT} {k i : Nat} {f : Addr} {fd : FuncData} {ps : List Str} {sp : Sp} {dvs : List V} {ds : List Value} {E : L2.St → XK} {x : Str} {p pos : Pos} {e : Expr} {es : List Expr} {t : TA}
end
section
variable {F : Fr} {W : WX} {δ : Dl} {te ta : TE} {t : TA} {wa : M (List U)} {w : M U}
end
section
variable {F : Fr} {δ : Dl}
end
section
variable {F : Fr} {δ : Dl} {wi : TI} {g : TG} {tt : TT} {te tk tv : TE} {vs : List Nat} {wl : M (List U)}
end
end UX
namespace SrtT
open PySem PyProof.Rows Srt SrtO
section
variable {prog : Program} {w : World} {A : Around} {E : Value → Shared → Prop} {s : Shared}
end
end SrtT
namespace UX
open PySem PySem.Spec PyProof.Rows L2 UY
open EL (Ex RB BOk Bn TK)
section
variable {F : Fr} {δ : Dl}
end
section
variable {F : Fr} {δ : Dl}
end
end UX
set_option maxHeartbeats 1000000
namespace RZE
open PySem PySem.W RZ
open PySem.Sem (wp)
section
variable {prog : Program} {w : World} {A : Around} {E : Value → Shared → Prop} {s : Shared}
end
section
variable {prog : Program} {w : World} {A : Around} {E : Value → Shared → Prop} {s : Shared}
end
section
variable {prog : Program} {w : World} {A : Around} {E : Value → Shared → Prop} {s : Shared}
end
end RZE
set_option maxHeartbeats 4000000
namespace RZE
open PySem PySem.Spec PyProof.Rows L2 RZ
end RZE
namespace UX
open PySem PySem.Spec PyProof.Rows L2 RZE
open EL (Ex RB BOk Bn TK FnG okG)
section
variable {F : Fr} {δ : Dl} {ta tb : TE} {wa wb : M U}
end
end UX
namespace UX
open PySem PySem.Spec PyProof.Rows L2 UY
open EL (Ex RB BOk Bn TK)
section
variable {F : Fr} {δ : Dl} {wi wi1 : TI} {g g1 : TG} {tt tt1 : TT} {te : TE} {vs vs1 : List Nat} {w0 : M (List U)}
end
end UX
namespace UX
open PySem PySem.Spec PyProof.Rows L2
open EL (Ex RB BOk Bn TK)
section
variable {F : Fr} {δ : Dl} {i : Nat} {s0 : Sh} {te ta : TE} {wa : M U}
end
section
variable {S L : Type} {F : Fr} {δ : Dl} {δn : S → Dl} {δl : L → Dl} {i : Nat} {t2 : TS}
end
end UX
namespace SrtT
open PySem PyProof.Rows Srt SrtO
section
variable {prog : Program} {w : World} {A : Around} {E : Value → Shared → Prop} {s : Shared}
end
end SrtT
namespace L2
open PySem PySem.Spec PyProof.Rows
section
variable {X : Cx}
end
end L2
namespace UX
open PySem PySem.Spec PyProof.Rows L2
open EL (Ex RB BOk Bn TK)
section
variable {F : Fr}
end
end UX
namespace UX
open PySem PySem.Spec
def Wp {α : Type} (w : M α) (st : Sto) (Q : α → Sto → Prop) : Prop := ∃ a st', w st = some (.ok a, st') ∧ Q a st'
section
variable {α β S S' L : Type} {w : M α} {st : Sto} {Q Q' : α → Sto → Prop}
theorem Wp.mono (h : Wp w st Q) (k : ∀ a s, Q a s → Q' a s) : Wp w st Q' := by
  obtain ⟨a, s, e, q⟩ := h
  exact ⟨a, s, e, k a s q⟩
theorem Wp.ret {a : α} (h : Q a st) : Wp (.ret a) st Q := ⟨a, st, rfl, h⟩
theorem Wp.bind {f : β → M α} {v : M β} (h : Wp v st fun a s => Wp (f a) s Q) : Wp (.bind v f) st Q := by
  obtain ⟨a, s, e, b, s', e', q⟩ := h
  exact ⟨b, s', by rw [M.bind_of e]; exact e', q⟩
theorem Wp.o {x : Option α} {a : α} (e : x = some a) (h : Q a st) : Wp (.o x) st Q := by subst e; exact Wp.ret h
theorem Wp.eq {a : α} {s : Sto} (e : w st = some (.ok a, s)) (h : Q a s) : Wp w st Q := ⟨a, s, e, h⟩
end
section
variable {S S' L : Type} {st : Sto} {Q : U → Sto → Prop} {QT : Bool → Sto → Prop} {QA : List U → Sto → Prop}
theorem Wp.op1 {f : U → Option U} {wa : M U} (h : Wp wa st fun a s => ∃ c, f a = some c ∧ Q c s) : Wp (op1 f wa) st Q := .bind (h.mono fun _ _ ⟨_, e, q⟩ => .o e q)
theorem Wp.op2 {f : U → U → Option U} {wa wb : M U} (h : Wp wa st fun a s => Wp wb s fun b s => ∃ c, f a b = some c ∧ Q c s) : Wp (op2 f wa wb) st Q := .bind (h.mono fun _ _ h => .bind (h.mono fun _ _ ⟨_, e, q⟩ => .o e q))
theorem Wp.test {wa : M U} (h : Wp wa st fun a s => ∃ b, a = .bl b ∧ QT b s) : Wp (testW wa) st QT := .bind (h.mono fun _ _ ⟨_, e, q⟩ => .o (by rw [e]; rfl) q)
theorem Wp.not {w : M Bool} (h : Wp w st fun b s => QT (!b) s) : Wp (notT w) st QT := .bind (h.mono fun _ _ q => .ret q)
theorem Wp.and {w w' : M Bool} (h : Wp w st fun b s => if b = true then Wp w' s QT else QT false s) : Wp (andT w w') st QT := .bind (h.mono fun b _ q => by
  cases b
  · exact .ret q
  · exact q)
theorem Wp.or {w w' : M Bool} (h : Wp w st fun b s => if b = true then QT true s else Wp w' s QT) : Wp (orT w w') st QT := .bind (h.mono fun b _ q => by
  cases b
  · exact q
  · exact .ret q)
theorem Wp.andW {w w' : M U} (h : Wp (testW w) st fun b s => if b = true then Wp w' s Q else Q (.bl false) s) : Wp (andW w w') st Q := .bind (h.mono fun b _ q => by
  cases b
  · exact .ret q
  · exact q)
theorem Wp.orW {w w' : M U} (h : Wp (testW w) st fun b s => if b = true then Q (.bl true) s else Wp w' s Q) : Wp (orW w w') st Q := .bind (h.mono fun b _ q => by
  cases b
  · exact q
  · exact .ret q)
theorem Wp.ite {α : Type} {Q : α → Sto → Prop} {c : M Bool} {w w' : M α} (h : Wp c st fun b s => if b = true then Wp w s Q else Wp w' s Q) : Wp (iteW c w w') st Q := .bind (h.mono fun b _ q => by
  cases b
  · exact q
  · exact q)
theorem Wp.consA {wa : M U} {wr : M (List U)} (h : Wp wa st fun a s => Wp wr s fun r s => QA (a :: r) s) : Wp (consA wa wr) st QA := .bind (h.mono fun _ _ h => .bind (h.mono fun _ _ q => .ret q))
theorem Wp.nilA (h : QA [] st) : Wp nilA st QA := .ret h
theorem Wp.tup {wa : M (List U)} (h : Wp wa st fun us s => us.length ≤ sizeLine ∧ Q (.tup us) s) : Wp (tupW wa) st Q := .bind (h.mono fun _ _ ⟨l, q⟩ => .o (if_pos l) q)
theorem Wp.lst {wa : M (List U)} (h : Wp wa st fun us s => us.length ≤ sizeLine ∧ Q (.lst us) s) : Wp (lstW wa) st Q := .bind (h.mono fun _ _ ⟨l, q⟩ => .o (if_pos l) q)
theorem Wp.call {f : List U → M U} {wa : M (List U)} (h : Wp wa st fun us s => Wp (f us) s Q) : Wp (callM f wa) st Q := .bind h
theorem Wp.seq {Q : Out S' L → Sto → Prop} {w : M (Out S L)} {k : S → M (Out S' L)} (h : Wp w st fun o s => match o with
    | .nx a => Wp (k a) s Q
    | .rt u => Q (.rt u) s
    | .bk l => Q (.bk l) s
    | .ct l => Q (.ct l) s) : Wp (seqO w k) st Q := .bind (h.mono fun o _ q => by
  cases o with
  | nx a => exact q
  | _ => exact .ret q)
theorem Wp.rt {Q : Out S L → Sto → Prop} {w : M U} (h : Wp w st fun u s => Q (.rt u) s) : Wp (rtO w) st Q := .bind (h.mono fun _ _ q => .ret q)
theorem Wp.nx {Q : Out S L → Sto → Prop} {s : S} (h : Q (.nx s) st) : Wp (nxO s) st Q := .ret h
theorem Wp.fn {w : M (Out Unit Unit)} (h : Wp w st fun o s => match o with
    | .rt u => Q u s
    | .nx _ => Q .non s
    | _ => False) : Wp (fnM w) st Q := .bind (h.mono fun o _ q => by
  cases o with
  | rt u => exact .ret q
  | nx _ => exact .ret q
  | bk _ => exact q.elim
  | ct _ => exact q.elim)
theorem Wp.for {f : U → S → M (Out S S)} {Q : Out S L → Sto → Prop} {us : List U} (I : Nat → S → Sto → Prop) {s0 : S} (h0 : I 0 s0 st)
    (hs : ∀ (i : Nat) (u : U) (s : S) (st : Sto), us[i]? = some u → I i s st → Wp (f u s) st fun o st' => match o with
      | .nx s' => I (i + 1) s' st'
      | .ct s' => I (i + 1) s' st'
      | .bk s' => Q (.nx s') st'
      | .rt u => Q (.rt u) st')
    (hd : ∀ s st, I us.length s st → Q (.nx s) st) : Wp (forO f us s0) st Q := by
  have key : ∀ (vs : List U) (k : Nat) (s : S) (st : Sto), us.drop k = vs → k ≤ us.length → I k s st → Wp (forO (L := L) f vs s) st Q := by
    intro vs
    induction vs with
    | nil =>
      intro k s st e hk hi
      have : k = us.length := by
        have := congrArg List.length e
        rw [List.length_drop] at this
        simp at this
        omega
      subst this
      exact .ret (hd s st hi)
    | cons v vs ih =>
      intro k s st e hk hi
      have hlt : k < us.length := by
        have := congrArg List.length e
        rw [List.length_drop, List.length_cons] at this
        omega
      have ev : us[k]? = some v := by rw [← List.head?_drop, e]; rfl
      have ed : us.drop (k + 1) = vs := by rw [← List.tail_drop, e]; rfl
      refine .bind ((hs k v s st ev hi).mono fun o st' q => ?_)
      cases o with
      | nx s' => exact ih (k + 1) s' st' ed hlt q
      | ct s' => exact ih (k + 1) s' st' ed hlt q
      | bk s' => exact .ret q
      | rt u => exact .ret q
  exact key us 0 s0 st rfl (Nat.zero_le _) h0
theorem Wp.comp {wt : U → M Bool} {we : U → M U} {us : List U} (I : Nat → List U → Sto → Prop) (h0 : I 0 [] st)
    (hs : ∀ (i : Nat) (u : U) (r : List U) (st : Sto), us[i]? = some u → I i r st → Wp (wt u) st fun b s => if b = true then Wp (we u) s fun x s => I (i + 1) (r ++ [x]) s else I (i + 1) r s)
    (hd : ∀ r st, I us.length r st → QA r st) : Wp (compM wt we us) st QA := by
  have key : ∀ (vs : List U) (k : Nat) (r : List U) (st : Sto), us.drop k = vs → k ≤ us.length → I k r st → Wp (compM wt we vs) st fun x s => QA (r ++ x) s := by
    intro vs
    induction vs with
    | nil =>
      intro k r st e hk hi
      have : k = us.length := by
        have := congrArg List.length e
        rw [List.length_drop] at this
        simp at this
        omega
      subst this
      exact .ret (by rw [List.append_nil]; exact hd r st hi)
    | cons v vs ih =>
      intro k r st e hk hi
      have hlt : k < us.length := by
        have := congrArg List.length e
        rw [List.length_drop, List.length_cons] at this
        omega
      have ev : us[k]? = some v := by rw [← List.head?_drop, e]; rfl
      have ed : us.drop (k + 1) = vs := by rw [← List.tail_drop, e]; rfl
      refine .bind ((hs k v r st ev hi).mono fun b s q => ?_)
      cases b with
      | false => exact ih (k + 1) r s ed hlt q
      | true => exact .bind (q.mono fun x s q => .bind ((ih (k + 1) (r ++ [x]) s ed hlt q).mono fun y s q => .ret (by rw [List.append_assoc] at q; exact q)))
  exact (key us 0 [] st rfl (Nat.zero_le _) h0).mono fun x s q => q
theorem Wp.lc {wl : M (List U)} {wt : U → M Bool} {we : U → M U} (h : Wp wl st fun us s => Wp (compM wt we us) s fun r s => r.length ≤ sizeLine ∧ Q (.lst r) s) : Wp (lcW wl wt we) st Q := .bind (h.mono fun _ _ h => .bind (h.mono fun _ _ ⟨l, q⟩ => .o (if_pos l) q))
theorem Wp.while {c : S → M Bool} {b : S → M (Out S S)} {Q : Out S L → Sto → Prop} (I : Nat → S → Sto → Prop)
    (hs : ∀ n s st, I n s st → Wp (c s) st fun t st => if t = true then Wp (b s) st fun o st => match o with
      | .nx s' => ∃ m < n, I m s' st
      | .ct s' => ∃ m < n, I m s' st
      | .bk s' => Q (.nx s') st
      | .rt u => Q (.rt u) st else Q (.nx s) st) : ∀ {n : Nat} {s : S} {st : Sto}, I n s st → Wp (whileO c b s) st Q := by
  have key : ∀ (n : Nat) (s : S) (st : Sto), I n s st → Wp (whileN (L := L) c b (n + 1) s) st Q := by
    intro n
    induction n using Nat.strongRecOn with
    | _ n ih =>
      intro s st hi
      have up : ∀ {m k : Nat} {s : S} {st : Sto}, m ≤ k → Wp (whileN (L := L) c b m s) st Q → Wp (whileN (L := L) c b k s) st Q := by
        intro m k s st h w
        obtain ⟨a, s', e, q⟩ := w
        refine ⟨a, s', ?_, q⟩
        induction h with
        | refl => exact e
        | step _ ih => exact whileN_succ ih
      refine .bind ((hs n s st hi).mono fun t st q => ?_)
      cases t with
      | false => exact .ret q
      | true =>
        refine .bind (Wp.mono (show Wp (b s) st _ from q) fun o st q => ?_)
        cases o with
        | nx s' => obtain ⟨m, hm, q⟩ := q; exact up (by omega) (ih m hm s' st q)
        | ct s' => obtain ⟨m, hm, q⟩ := q; exact up (by omega) (ih m hm s' st q)
        | bk s' => exact .ret q
        | rt u => exact .ret q
  intro n s st hi
  obtain ⟨a, s', e, q⟩ := key n s st hi
  exact ⟨a, s', whileO_of e, q⟩
end
theorem pdAll_ints : ∀ cs : List Int, pdAll (cs.map U.int) = some (cs.map PyData.int)
  | [] => rfl
  | c :: cs => by simp [pdAll, pd, pdAll_ints cs]
theorem shaped_ints (cs : List Int) : SeqAt.shaped (.list (cs.map PyData.int)) = true :=
  EL.shaped_list (n := 5) (fun d hd => by obtain ⟨w, _, rfl⟩ := List.mem_map.mp hd; rfl) (fun d hd => by obtain ⟨w, _, rfl⟩ := List.mem_map.mp hd; simp [PyData.depth]) (by decide)
theorem neU_nil (cs : List Int) : neU (.lst (cs.map .int)) (.lst []) = some (.bl (!cs.isEmpty)) := by
  have e : pd (.lst (cs.map .int)) = some (.list (cs.map PyData.int)) := by simp [pd, pdAll_ints]
  show neD _ _ = _
  unfold neD
  rw [e, show pd (.lst []) = some (.list []) from rfl]
  simp only [shaped_ints, show SeqAt.shaped (.list []) = true from by decide, and_self, if_true]
  cases cs <;> simp [PyData.eqv, PyData.eqvAll]
theorem eqU_nil (cs : List Int) : eqU (.lst (cs.map .int)) (.lst []) = some (.bl cs.isEmpty) := by
  have e : pd (.lst (cs.map .int)) = some (.list (cs.map PyData.int)) := by simp [pd, pdAll_ints]
  show eqD _ _ = _
  unfold eqD
  rw [e, show pd (.lst []) = some (.list []) from rfl]
  simp only [shaped_ints, show SeqAt.shaped (.list []) = true from by decide, and_self, if_true]
  cases cs <;> simp [PyData.eqv, PyData.eqvAll]
theorem eqU_int (i j : Int) : eqU (.int i) (.int j) = some (.bl (decide (i = j))) := by
  show eqD (.int i) (.int j) = _
  unfold eqD
  rw [show pd (.int i) = some (.int i) from rfl, show pd (.int j) = some (.int j) from rfl]
  have h : ∀ i : Int, SeqAt.shaped (.int i) = true := fun i => by simp [SeqAt.shaped, PyData.canLay0, PyData.depth]
  simp only [h, and_self, if_true]
  simp only [PyData.eqv]
  rfl
theorem fdiv_at {i j : Int} (h : j ≠ 0) (h2 : j.natAbs < 1073741824) : fdivU (.int i) (.int j) = some (.int (i.fdiv j)) := if_pos ⟨h, h2⟩
theorem mod_at {i j : Int} (h : j ≠ 0) : modU (.int i) (.int j) = some (.int (i.fmod j)) := if_pos h
theorem mul_at {i j : Int} (h : L2.CMul i j) : mulU (.int i) (.int j) = some (.int (i * j)) := if_pos h
theorem pow_at {i j : Int} (h : L2.CPow i j) : powU (.int i) (.int j) = some (.int (i ^ j.toNat)) := if_pos h
theorem eqU_str {x y : Str} {b : Bool} (hb : decide (x = y) = b) : eqU (.str x) (.str y) = some (.bl b) := by rw [← hb]; rfl
theorem neU_str {x y : Str} {b : Bool} (hb : (!decide (x = y)) = b) : neU (.str x) (.str y) = some (.bl b) := by rw [← hb]; rfl
theorem leaf_ints (cs : List Int) : (cs.map U.int).all leafU = true := by
  rw [List.all_map, List.all_eq_true]; intro c _; rfl
def WpO {α : Type} (x : Option α) (P : α → Prop) : Prop := ∃ c, x = some c ∧ P c
def SeqK {S S' L : Type} (k : S → M (Out S' L)) (Q : Out S' L → Sto → Prop) : Out S L → Sto → Prop
  | .nx a, s => Wp (k a) s Q
  | .rt u, s => Q (.rt u) s
  | .bk l, s => Q (.bk l) s
  | .ct l, s => Q (.ct l) s
def FnK (Q : U → Sto → Prop) : Out Unit Unit → Sto → Prop
  | .rt u, s => Q u s
  | .nx _, s => Q .non s
  | _, _ => False
def ForK {S L : Type} (J : S → Sto → Prop) (Q : Out S L → Sto → Prop) : Out S S → Sto → Prop
  | .nx s, st => J s st
  | .ct s, st => J s st
  | .bk s, st => Q (.nx s) st
  | .rt u, st => Q (.rt u) st
def IfP (b : Bool) (A B : Prop) : Prop := if b = true then A else B
section
variable {α β S S' L : Type} {st : Sto} {Q : U → Sto → Prop} {QT : Bool → Sto → Prop} {QA : List U → Sto → Prop} {A B : Prop} {b : Bool}
theorem if_t (h : A) : IfP true A B := h
theorem if_f (h : B) : IfP false A B := h
theorem if_yes (e : b = true) (h : A) : IfP b A B := by subst e; exact h
theorem if_no (e : b = false) (h : B) : IfP b A B := by subst e; exact h
theorem if_dec {p : Prop} [Decidable p] (h1 : p → A) (h2 : ¬ p → B) : IfP (decide p) A B := by
  by_cases h : p
  · rw [decide_eq_true h]; exact h1 h
  · rw [decide_eq_false h]; exact h2 h
theorem if_p {p : Prop} [Decidable p] (h : p) (q : A) : IfP (decide p) A B := if_yes (decide_eq_true h) q
theorem if_n {p : Prop} [Decidable p] (h : ¬ p) (q : B) : IfP (decide p) A B := if_no (decide_eq_false h) q
theorem if_np {p : Prop} [Decidable p] (h : ¬ p) (q : A) : IfP (!decide p) A B := if_yes (by rw [decide_eq_false h]; rfl) q
theorem if_nn {p : Prop} [Decidable p] (h : p) (q : B) : IfP (!decide p) A B := if_no (by rw [decide_eq_true h]; rfl) q
theorem if_any (h1 : b = true → A) (h2 : b = false → B) : IfP b A B := by
  cases b
  · exact h2 rfl
  · exact h1 rfl
theorem wo_some {x : α} {P : α → Prop} (h : P x) : WpO (some x) P := ⟨x, rfl, h⟩
theorem wo_eq {x : Option α} {a : α} {P : α → Prop} (e : x = some a) (h : P a) : WpO x P := ⟨a, e, h⟩
theorem vs_ret {Q : α → Sto → Prop} {a : α} (h : Q a st) : Wp (.ret a) st Q := .ret h
theorem vs_eq {w : M α} {Q : α → Sto → Prop} {a : α} (e : w = .ret a) (h : Q a st) : Wp w st Q := e ▸ .ret h
theorem vs_o {x : Option α} {Q : α → Sto → Prop} (h : WpO x fun a => Q a st) : Wp (.o x) st Q := by obtain ⟨c, e, q⟩ := h; exact .o e q
theorem vs_op1 {f : U → Option U} {wa : M U} (h : Wp wa st fun a s => WpO (f a) fun c => Q c s) : Wp (op1 f wa) st Q := .op1 h
theorem vs_op2 {f : U → U → Option U} {wa wb : M U} (h : Wp wa st fun a s => Wp wb s fun b s => WpO (f a b) fun c => Q c s) : Wp (op2 f wa wb) st Q := .op2 h
theorem vs_test {wa : M U} (h : Wp wa st fun a s => WpO (boolU a) fun b => QT b s) : Wp (testW wa) st QT := .bind (h.mono fun _ _ q => vs_o q)
theorem vs_not {w : M Bool} (h : Wp w st fun b s => QT (!b) s) : Wp (notT w) st QT := .not h
theorem vs_and {w w' : M Bool} (h : Wp w st fun b s => IfP b (Wp w' s QT) (QT false s)) : Wp (andT w w') st QT := .and h
theorem vs_or {w w' : M Bool} (h : Wp w st fun b s => IfP b (QT true s) (Wp w' s QT)) : Wp (orT w w') st QT := .or h
theorem vs_andW {w w' : M U} (h : Wp (testW w) st fun b s => IfP b (Wp w' s Q) (Q (.bl false) s)) : Wp (andW w w') st Q := .andW h
theorem vs_orW {w w' : M U} (h : Wp (testW w) st fun b s => IfP b (Q (.bl true) s) (Wp w' s Q)) : Wp (orW w w') st Q := .orW h
theorem vs_ite {Q : α → Sto → Prop} {c : M Bool} {w w' : M α} (h : Wp c st fun b s => IfP b (Wp w s Q) (Wp w' s Q)) : Wp (iteW c w w') st Q := .ite h
theorem vs_chain {f g : U → U → Option U} {wa wb wc : M U} (h : Wp wa st fun a s => Wp wb s fun b s => WpO (f a b) fun t => WpO (boolU t) fun k => IfP k (Wp wc s fun c s => WpO (g b c) fun r => Q r s) (Q (.bl false) s)) : Wp (chainW f g wa wb wc) st Q :=
  .bind (h.mono fun a _ h => .bind (h.mono fun b s h => .bind (vs_test (vs_o (by
    obtain ⟨t, e, k, e', q⟩ := h
    refine ⟨t, e, k, e', ?_⟩
    cases k with
    | false => exact .ret q
    | true => exact .bind (Wp.mono (show Wp wc s _ from q) fun c s q => vs_o q))))))
theorem vs_consA {wa : M U} {wr : M (List U)} (h : Wp wa st fun a s => Wp wr s fun r s => QA (a :: r) s) : Wp (consA wa wr) st QA := .consA h
theorem vs_nilA (h : QA [] st) : Wp nilA st QA := .ret h
theorem vs_tup {wa : M (List U)} (h : Wp wa st fun us s => us.length ≤ sizeLine ∧ Q (.tup us) s) : Wp (tupW wa) st Q := .tup h
theorem vs_lst {wa : M (List U)} (h : Wp wa st fun us s => us.length ≤ sizeLine ∧ Q (.lst us) s) : Wp (lstW wa) st Q := .lst h
theorem vs_call {f : List U → M U} {wa : M (List U)} (h : Wp wa st fun us s => Wp (f us) s Q) : Wp (callM f wa) st Q := .call h
theorem vs_meth {c m : Str} {f : List U → M U} {wo : M U} {wa : M (List U)} (h : Wp wo st fun o s => WpO (isObj c m o) fun _ => Wp wa s fun us s => Wp (f (o :: us)) s Q) : Wp (methM c m f wo wa) st Q :=
  .bind (h.mono fun o s h => .bind (vs_o (by obtain ⟨x, e, q⟩ := h; exact ⟨x, e, .bind q⟩)))
theorem vs_L0 {f : M U} (h : Wp f st Q) : Wp (L0 f []) st Q := h
theorem vs_L1 {f : U → M U} {a : U} (h : Wp (f a) st Q) : Wp (L1 f [a]) st Q := h
theorem vs_L2 {f : U → U → M U} {a b : U} (h : Wp (f a b) st Q) : Wp (L2' f [a, b]) st Q := h
theorem vs_L3 {f : U → U → U → M U} {a b c : U} (h : Wp (f a b c) st Q) : Wp (L3 f [a, b, c]) st Q := h
theorem vs_L4 {f : U → U → U → U → M U} {a b c d : U} (h : Wp (f a b c d) st Q) : Wp (L4 f [a, b, c, d]) st Q := h
theorem vs_L5 {f : U → U → U → U → U → M U} {a b c d e : U} (h : Wp (f a b c d e) st Q) : Wp (L5 f [a, b, c, d, e]) st Q := h
theorem vs_L6 {f : U → U → U → U → U → U → M U} {a b c d e g : U} (h : Wp (f a b c d e g) st Q) : Wp (L6 f [a, b, c, d, e, g]) st Q := h
theorem vs_seq {Q : Out S' L → Sto → Prop} {w : M (Out S L)} {k : S → M (Out S' L)} (h : Wp w st (SeqK k Q)) : Wp (seqO w k) st Q := .seq (h.mono fun o s q => by cases o <;> exact q)
theorem sk_nx {k : S → M (Out S' L)} {Q : Out S' L → Sto → Prop} {a : S} (h : Wp (k a) st Q) : SeqK (L := L) k Q (.nx a) st := h
theorem sk_rt {k : S → M (Out S' L)} {Q : Out S' L → Sto → Prop} {u : U} (h : Q (.rt u) st) : SeqK (L := L) k Q (.rt u) st := h
theorem sk_bk {k : S → M (Out S' L)} {Q : Out S' L → Sto → Prop} {u : L} (h : Q (.bk u) st) : SeqK (L := L) k Q (.bk u) st := h
theorem sk_ct {k : S → M (Out S' L)} {Q : Out S' L → Sto → Prop} {u : L} (h : Q (.ct u) st) : SeqK (L := L) k Q (.ct u) st := h
theorem fk_rt {u : U} (h : Q u st) : FnK Q (.rt u) st := h
theorem fk_nx {u : Unit} (h : Q .non st) : FnK Q (.nx u) st := h
theorem ok_nx {J : S → Sto → Prop} {Q : Out S L → Sto → Prop} {s : S} (h : J s st) : ForK J Q (.nx s) st := h
theorem ok_ct {J : S → Sto → Prop} {Q : Out S L → Sto → Prop} {s : S} (h : J s st) : ForK J Q (.ct s) st := h
theorem ok_bk {J : S → Sto → Prop} {Q : Out S L → Sto → Prop} {s : S} (h : Q (.nx s) st) : ForK J Q (.bk s) st := h
theorem ok_rt {J : S → Sto → Prop} {Q : Out S L → Sto → Prop} {u : U} (h : Q (.rt u) st) : ForK J Q (.rt u) st := h
theorem vs_rt {Q : Out S L → Sto → Prop} {w : M U} (h : Wp w st fun u s => Q (.rt u) s) : Wp (rtO w) st Q := .rt h
theorem vs_nx {Q : Out S L → Sto → Prop} {s : S} (h : Q (.nx s) st) : Wp (nxO s) st Q := .ret h
theorem vs_fn {w : M (Out Unit Unit)} (h : Wp w st (FnK Q)) : Wp (fnM w) st Q := .fn (h.mono fun o s q => by cases o <;> exact q)
theorem vs_noP {Q : Option Int → Sto → Prop} (h : Q none st) : Wp noP st Q := .ret h
theorem vs_someP {Q : Option Int → Sto → Prop} {w : M U} (h : Wp w st fun u s => WpO (intU u) fun i => Q (some i) s) : Wp (someP w) st Q := .bind (h.mono fun u s q => vs_o (by obtain ⟨i, e, q⟩ := q; exact ⟨some i, by rw [e]; rfl, q⟩))
theorem vs_sl {wa : M U} {wl wh : M (Option Int)} (h : Wp wa st fun a s => Wp wl s fun l s => Wp wh s fun h s => WpO (slU a l h) fun c => Q c s) : Wp (slW wa wl wh) st Q := .bind (h.mono fun _ _ h => .bind (h.mono fun _ _ h => .bind (h.mono fun _ _ h => vs_o h)))
theorem vs_it {w : M U} (h : Wp w st fun u s => WpO (itU u) fun r => QA r s) : Wp (itW w) st QA := .bind (h.mono fun _ _ h => vs_o h)
theorem vs_rng1 {w : M U} (h : Wp w st fun u s => WpO (rng1U u) fun r => QA r s) : Wp (rng1W w) st QA := .bind (h.mono fun _ _ h => vs_o h)
theorem vs_rng2 {w w' : M U} (h : Wp w st fun u s => Wp w' s fun u' s => WpO (rng2U u u') fun r => QA r s) : Wp (rng2W w w') st QA := .bind (h.mono fun _ _ h => .bind (h.mono fun _ _ h => vs_o h))
theorem vs_zip {w w' : M U} (h : Wp w st fun u s => Wp w' s fun u' s => WpO (zipU u u') fun r => QA r s) : Wp (zipW w w') st QA := .bind (h.mono fun _ _ h => .bind (h.mono fun _ _ h => vs_o h))
theorem vs_un2 {Q : α → Sto → Prop} {a b : U} {k : U → U → M α} (h : Wp (k a b) st Q) : Wp (un2 (.tup [a, b]) k) st Q := h
theorem vs_un3 {Q : α → Sto → Prop} {a b c : U} {k : U → U → U → M α} (h : Wp (k a b c) st Q) : Wp (un3 (.tup [a, b, c]) k) st Q := h
theorem vs_un4 {Q : α → Sto → Prop} {a b c d : U} {k : U → U → U → U → M α} (h : Wp (k a b c d) st Q) : Wp (un4 (.tup [a, b, c, d]) k) st Q := h
theorem vs_un5 {Q : α → Sto → Prop} {a b c d e : U} {k : U → U → U → U → U → M α} (h : Wp (k a b c d e) st Q) : Wp (un5 (.tup [a, b, c, d, e]) k) st Q := h
theorem vs_un6 {Q : α → Sto → Prop} {a b c d e f : U} {k : U → U → U → U → U → U → M α} (h : Wp (k a b c d e f) st Q) : Wp (un6 (.tup [a, b, c, d, e, f]) k) st Q := h
theorem vs_lc {wl : M (List U)} {wt : U → M Bool} {we : U → M U} (h : Wp wl st fun us s => Wp (compM wt we us) s fun r s => r.length ≤ sizeLine ∧ Q (.lst r) s) : Wp (lcW wl wt we) st Q := .lc h
theorem vs_lc2 {wl : M (List U)} {wt : U → M Bool} {w1 : U → M (List U)} {wt1 : U → U → M Bool} {we : U → U → M U} (h : Wp wl st fun us s => Wp (comp2M wt w1 wt1 we us) s fun r s => r.length ≤ sizeLine ∧ Q (.lst r) s) : Wp (lc2W wl wt w1 wt1 we) st Q := .bind (h.mono fun _ _ h => .bind (h.mono fun _ _ ⟨l, q⟩ => .o (if_pos l) q))
theorem vs_for {τ σ : Type} {c : τ → U} {e : σ → S} {f : U → S → M (Out S S)} {Q : Out S L → Sto → Prop} {xs : List τ} (I : List τ → σ → Sto → Prop) {s0 : S} {t0 : σ} (he : s0 = e t0) (h0 : I [] t0 st)
    (hs : ∀ (pre : List τ) (x : τ) (post : List τ) (s : σ) (st : Sto), xs = pre ++ x :: post → I pre s st → Wp (f (c x) (e s)) st (ForK (fun s' st' => ∃ t, s' = e t ∧ I (pre ++ [x]) t st') Q))
    (hd : ∀ s st, I xs s st → Q (.nx (e s)) st) : Wp (forO f (xs.map c) s0) st Q := by
  subst he
  have key : ∀ (post pre : List τ) (s : σ) (st : Sto), xs = pre ++ post → I pre s st → Wp (forO (L := L) f (post.map c) (e s)) st Q := by
    intro post
    induction post with
    | nil => intro pre s st ex hi; rw [List.append_nil] at ex; subst ex; exact .ret (hd s st hi)
    | cons x post ih =>
      intro pre s st ex hi
      refine .bind ((hs pre x post s st ex hi).mono fun o st' q => ?_)
      cases o with
      | nx s' => obtain ⟨t, rfl, q⟩ := q; exact ih (pre ++ [x]) t st' (by rw [ex]; simp) q
      | ct s' => obtain ⟨t, rfl, q⟩ := q; exact ih (pre ++ [x]) t st' (by rw [ex]; simp) q
      | bk s' => exact .ret q
      | rt u => exact .ret q
  exact key xs [] t0 st rfl h0
theorem vs_forN {σ : Type} {e : σ → S} {f : U → S → M (Out S S)} {Q : Out S L → Sto → Prop} {n : Nat} (I : Nat → σ → Sto → Prop) {s0 : S} {t0 : σ} (he : s0 = e t0) (h0 : I 0 t0 st)
    (hs : ∀ (i : Nat) (s : σ) (st : Sto), i < n → I i s st → Wp (f (.int (i : Nat)) (e s)) st (ForK (fun s' st' => ∃ t, s' = e t ∧ I (i + 1) t st') Q))
    (hd : ∀ s st, I n s st → Q (.nx (e s)) st) : Wp (forO f ((List.range n).map fun i => .int (i : Nat)) s0) st Q := by
  subst he
  refine vs_for (c := fun i : Nat => U.int (i : Nat)) (e := e) (xs := List.range n) (fun pre s st => pre = List.range pre.length ∧ I pre.length s st) (t0 := t0) rfl ⟨rfl, h0⟩ ?_ ?_
  · rintro pre x post s st ex ⟨hp, hi⟩
    have hl : pre.length < n := by have := congrArg List.length ex; simp at this; omega
    have hx : x = pre.length := by
      have h1 : (List.range n)[pre.length]? = some x := by rw [ex]; simp
      rw [List.getElem?_range hl] at h1
      exact (Option.some.inj h1).symm
    subst hx
    refine (hs pre.length s st hl hi).mono fun o st' q => ?_
    have hp' : pre ++ [pre.length] = List.range (pre ++ [pre.length]).length := by
      rw [List.length_append, List.length_singleton, List.range_succ, ← hp]
    cases o with
    | nx s' => obtain ⟨t, rfl, q⟩ := q; exact ⟨t, rfl, hp', by simpa using q⟩
    | ct s' => obtain ⟨t, rfl, q⟩ := q; exact ⟨t, rfl, hp', by simpa using q⟩
    | bk s' => exact q
    | rt u => exact q
  · rintro s st ⟨_, hi⟩
    exact hd s st (by simpa using hi)
end
section
variable {α β : Type}
theorem eq_of_wp {w : M α} {a : α} (h : ∀ st, Wp w st fun x s => x = a ∧ s = st) : w = .ret a := by
  funext st
  obtain ⟨x, s, e, rfl, rfl⟩ := h st
  exact e
theorem comp_eq {τ κ : Type} {c : τ → U} {d : κ → U} {wt : U → M Bool} {we : U → M U} {p : τ → Bool} {g : τ → κ} : ∀ {xs : List τ}, (∀ x ∈ xs, wt (c x) = .ret (p x) ∧ (p x = true → we (c x) = .ret (d (g x)))) → compM wt we (xs.map c) = .ret (((xs.filter p).map g).map d)
  | [], _ => rfl
  | x :: xs, h => by
    have ih := comp_eq (xs := xs) fun y m => h y (List.mem_cons_of_mem _ m)
    obtain ⟨h1, h2⟩ := h x List.mem_cons_self
    rw [List.map_cons, compM, h1, M.bind_ret, List.filter_cons]
    cases e : p x with
    | false => exact ih
    | true => rw [if_pos rfl, h2 e, M.bind_ret, ih]; rfl
end
mutual
def wtU : U → Nat
  | .tup us => wtA us
  | .lst us => wtA us
  | _ => 100
def wtA : List U → Nat
  | [] => 0
  | u :: us => wtU u + 1 + wtA us
end
mutual
def dpU : U → Nat
  | .tup us => dpA us + 1
  | .lst us => dpA us + 1
  | _ => 0
def dpA : List U → Nat
  | [] => 0
  | u :: us => max (dpU u) (dpA us)
end
structure SmD (u : U) (d : PyData) : Prop where
  pd : pd u = some d
  sh : d.showable = true
  nd : d.hasDict = false
  dp : d.depth = dpU u
  ls : d.leavesShort 13 = true
  wt : d.weight ≤ wtU u
  cl : d.canLay0 = true
structure SmDA (us : List U) (ds : List PyData) : Prop where
  pd : pdAll us = some ds
  sh : PyData.showableAll ds = true
  nd : PyData.hasDictAll ds = false
  dp : PyData.depthAll ds = dpA us
  ls : PyData.leavesShortAll 13 ds = true
  wt : PyData.weightAll ds ≤ wtA us
  cl : PyData.canLayAll0 ds = true
theorem log_small {i : Int} (h : i.natAbs < 1000000000000) : i.natAbs.log2 < 41 := by
  by_cases z : i.natAbs = 0
  · rw [z]; decide
  · exact (Nat.log2_lt z).mpr (Nat.lt_of_lt_of_le h (by decide))
mutual
def nbU : U → Bool
  | .int _ => true
  | .non => true
  | .str x => PyData.strOk x
  | .tup us => nbA us
  | .lst us => nbA us
  | _ => false
def nbA : List U → Bool
  | [] => true
  | u :: us => nbU u && nbA us
end
structure NbD (u : U) (d : PyData) : Prop where
  pd : pd u = some d
  dp : d.depth = dpU u
  cl : d.canLay0 = true
structure NbDA (us : List U) (ds : List PyData) : Prop where
  pd : pdAll us = some ds
  dp : PyData.depthAll ds = dpA us
  cl : PyData.canLayAll0 ds = true
mutual
theorem nb_pd : ∀ u : U, nbU u = true → ∃ d, NbD u d
  | .non, _ => ⟨.none, rfl, rfl, rfl⟩
  | .int i, _ => ⟨.int i, rfl, rfl, rfl⟩
  | .str x, h => ⟨.str x, rfl, rfl, by simpa [nbU, PyData.canLay0] using h⟩
  | .tup us, h => by
    obtain ⟨ds, e⟩ := nbA_pd us h
    exact ⟨.tuple ds, by simp [pd, e.pd], by simp [PyData.depth, dpU, e.dp], by simpa [PyData.canLay0] using e.cl⟩
  | .lst us, h => by
    obtain ⟨ds, e⟩ := nbA_pd us h
    exact ⟨.list ds, by simp [pd, e.pd], by simp [PyData.depth, dpU, e.dp], by simpa [PyData.canLay0] using e.cl⟩
  | .bl _, h => by simp [nbU] at h
  | .dct _ _, h => by simp [nbU] at h
  | .dcT _ _, h => by simp [nbU] at h
  | .obj _ _ _, h => by simp [nbU] at h
  | .top _, h => by simp [nbU] at h
  | .frl _, h => by simp [nbU] at h
  | .loc _, h => by simp [nbU] at h
  | .exc _, h => by simp [nbU] at h
  | .exo _ _ _, h => by simp [nbU] at h
theorem nbA_pd : ∀ us : List U, nbA us = true → ∃ ds, NbDA us ds
  | [], _ => ⟨[], rfl, rfl, rfl⟩
  | u :: us, h => by
    have h : nbU u = true ∧ nbA us = true := by simpa [nbA] using h
    obtain ⟨d, e⟩ := nb_pd u h.1
    obtain ⟨ds, f⟩ := nbA_pd us h.2
    exact ⟨d :: ds, by simp [pdAll, e.pd, f.pd], by simp [PyData.depthAll, dpA, e.dp, f.dp], by simp [PyData.canLayAll0, e.cl, f.cl]⟩
end
theorem pdAll_cons {u : U} {us : List U} {ds : List PyData} (h : pdAll (u :: us) = some ds) : ∃ d r, ds = d :: r ∧ pd u = some d ∧ pdAll us = some r := by
  rw [pdAll] at h
  cases e : pd u with
  | none => rw [e] at h; cases h
  | some d =>
    cases f : pdAll us with
    | none => rw [e, f] at h; cases h
    | some r => rw [e, f] at h; cases h; exact ⟨d, r, rfl, rfl, rfl⟩
theorem pd_tup {us : List U} {d : PyData} (h : pd (.tup us) = some d) : ∃ ds, d = .tuple ds ∧ pdAll us = some ds := by
  obtain ⟨ds, e, rfl⟩ := Option.map_eq_some_iff.mp (show (pdAll us).map .tuple = some d from h)
  exact ⟨ds, rfl, e⟩
theorem pd_lst {us : List U} {d : PyData} (h : pd (.lst us) = some d) : ∃ ds, d = .list ds ∧ pdAll us = some ds := by
  obtain ⟨ds, e, rfl⟩ := Option.map_eq_some_iff.mp (show (pdAll us).map .list = some d from h)
  exact ⟨ds, rfl, e⟩
mutual
theorem eqv_iff : ∀ (u v : U) (d e : PyData), nbU u = true → nbU v = true → pd u = some d → pd v = some e → (PyData.eqv d e = true ↔ u = v)
  | .non, v, d, e, _, hv, e1, e2 => by
    cases e1
    cases v <;> simp [nbU] at hv <;> first
      | (cases e2; simp [PyData.eqv])
      | (obtain ⟨ds, rfl, _⟩ := pd_tup e2; simp [PyData.eqv])
      | (obtain ⟨ds, rfl, _⟩ := pd_lst e2; simp [PyData.eqv])
  | .int i, v, d, e, _, hv, e1, e2 => by
    cases e1
    cases v <;> simp [nbU] at hv <;> first
      | (cases e2; simp [PyData.eqv])
      | (obtain ⟨ds, rfl, _⟩ := pd_tup e2; simp [PyData.eqv])
      | (obtain ⟨ds, rfl, _⟩ := pd_lst e2; simp [PyData.eqv])
  | .str i, v, d, e, _, hv, e1, e2 => by
    cases e1
    cases v <;> simp [nbU] at hv <;> first
      | (cases e2; simp [PyData.eqv])
      | (obtain ⟨ds, rfl, _⟩ := pd_tup e2; simp [PyData.eqv])
      | (obtain ⟨ds, rfl, _⟩ := pd_lst e2; simp [PyData.eqv])
  | .tup us, v, d, e, hu, hv, e1, e2 => by
    obtain ⟨ds, rfl, f⟩ := pd_tup e1
    cases v with
    | tup vs =>
      obtain ⟨es, rfl, g⟩ := pd_tup e2
      rw [PyData.eqv, eqvA_iff us vs ds es hu hv f g]
      simp
    | lst vs => obtain ⟨es, rfl, g⟩ := pd_lst e2; simp [PyData.eqv]
    | non => cases e2; simp [PyData.eqv]
    | int _ => cases e2; simp [PyData.eqv]
    | str _ => cases e2; simp [PyData.eqv]
    | _ => simp [nbU] at hv
  | .lst us, v, d, e, hu, hv, e1, e2 => by
    obtain ⟨ds, rfl, f⟩ := pd_lst e1
    cases v with
    | lst vs =>
      obtain ⟨es, rfl, g⟩ := pd_lst e2
      rw [PyData.eqv, eqvA_iff us vs ds es hu hv f g]
      simp
    | tup vs => obtain ⟨es, rfl, g⟩ := pd_tup e2; simp [PyData.eqv]
    | non => cases e2; simp [PyData.eqv]
    | int _ => cases e2; simp [PyData.eqv]
    | str _ => cases e2; simp [PyData.eqv]
    | _ => simp [nbU] at hv
  | .bl _, _, _, _, h, _, _, _ => by simp [nbU] at h
  | .dct _ _, _, _, _, h, _, _, _ => by simp [nbU] at h
  | .dcT _ _, _, _, _, h, _, _, _ => by simp [nbU] at h
  | .obj _ _ _, _, _, _, h, _, _, _ => by simp [nbU] at h
  | .top _, _, _, _, h, _, _, _ => by simp [nbU] at h
  | .frl _, _, _, _, h, _, _, _ => by simp [nbU] at h
  | .loc _, _, _, _, h, _, _, _ => by simp [nbU] at h
  | .exc _, _, _, _, h, _, _, _ => by simp [nbU] at h
  | .exo _ _ _, _, _, _, h, _, _, _ => by simp [nbU] at h
theorem eqvA_iff : ∀ (us vs : List U) (ds es : List PyData), nbA us = true → nbA vs = true → pdAll us = some ds → pdAll vs = some es → (PyData.eqvAll ds es = true ↔ us = vs)
  | [], [], ds, es, _, _, e1, e2 => by cases e1; cases e2; simp [PyData.eqvAll]
  | [], v :: vs, ds, es, _, _, e1, e2 => by
    cases e1
    obtain ⟨d, r, rfl, _, _⟩ := pdAll_cons e2
    simp [PyData.eqvAll]
  | u :: us, [], ds, es, _, _, e1, e2 => by
    cases e2
    obtain ⟨d, r, rfl, _, _⟩ := pdAll_cons e1
    simp [PyData.eqvAll]
  | u :: us, v :: vs, ds, es, hu, hv, e1, e2 => by
    have hu : nbU u = true ∧ nbA us = true := by simpa [nbA] using hu
    have hv : nbU v = true ∧ nbA vs = true := by simpa [nbA] using hv
    obtain ⟨d, r, rfl, f1, f2⟩ := pdAll_cons e1
    obtain ⟨e, s, rfl, g1, g2⟩ := pdAll_cons e2
    rw [PyData.eqvAll, Bool.and_eq_true_iff, eqv_iff u v d e hu.1 hv.1 f1 g1, eqvA_iff us vs r s hu.2 hv.2 f2 g2]
    simp
end
theorem eqD_nb {u v : U} (hu : nbU u = true) (hv : nbU v = true) (du : dpU u ≤ 64) (dv : dpU v ≤ 64) {b : Bool} (hb : b = true ↔ u = v) : eqD u v = some (.bl b) := by
  obtain ⟨d, e⟩ := nb_pd u hu
  obtain ⟨d', e'⟩ := nb_pd v hv
  have h := eqv_iff u v d d' hu hv e.pd e'.pd
  have s1 : SeqAt.shaped d = true := by simp only [SeqAt.shaped, e.cl, e.dp, Bool.true_and]; exact decide_eq_true du
  have s2 : SeqAt.shaped d' = true := by simp only [SeqAt.shaped, e'.cl, e'.dp, Bool.true_and]; exact decide_eq_true dv
  unfold eqD
  rw [e.pd, e'.pd]
  have : PyData.eqv d d' = b := by rw [Bool.eq_iff_iff, h, hb]
  simp only [s1, s2, this, and_self, if_true]
theorem neD_nb {u v : U} (hu : nbU u = true) (hv : nbU v = true) (du : dpU u ≤ 64) (dv : dpU v ≤ 64) {b : Bool} (hb : b = true ↔ u = v) : neD u v = some (.bl (!b)) := by
  obtain ⟨d, e⟩ := nb_pd u hu
  obtain ⟨d', e'⟩ := nb_pd v hv
  have h := eqv_iff u v d d' hu hv e.pd e'.pd
  have s1 : SeqAt.shaped d = true := by simp only [SeqAt.shaped, e.cl, e.dp, Bool.true_and]; exact decide_eq_true du
  have s2 : SeqAt.shaped d' = true := by simp only [SeqAt.shaped, e'.cl, e'.dp, Bool.true_and]; exact decide_eq_true dv
  unfold neD
  rw [e.pd, e'.pd]
  have : PyData.eqv d d' = b := by rw [Bool.eq_iff_iff, h, hb]
  simp only [s1, s2, this, and_self, if_true]
theorem eqU_nb {u v : U} (hu : nbU u = true) (hv : nbU v = true) (du : dpU u ≤ 64) (dv : dpU v ≤ 64) {b : Bool} (hb : b = true ↔ u = v) : eqU u v = some (.bl b) := by
  cases u with
  | str x =>
    cases v with
    | str y => exact eqU_str (by rw [Bool.eq_iff_iff, hb]; simp)
    | _ => exact eqD_nb hu hv du dv hb
  | _ => exact eqD_nb hu hv du dv hb
theorem neU_nb {u v : U} (hu : nbU u = true) (hv : nbU v = true) (du : dpU u ≤ 64) (dv : dpU v ≤ 64) {b : Bool} (hb : b = true ↔ u = v) : neU u v = some (.bl (!b)) := by
  cases u with
  | str x =>
    cases v with
    | str y => exact neU_str (by congr 1; rw [Bool.eq_iff_iff, hb]; simp)
    | _ => exact neD_nb hu hv du dv hb
  | _ => exact neD_nb hu hv du dv hb
theorem nbA_map {τ : Type} {c : τ → U} : ∀ {xs : List τ}, (∀ x ∈ xs, nbU (c x) = true) → nbA (xs.map c) = true
  | [], _ => rfl
  | x :: xs, h => by simp [nbA, h x List.mem_cons_self, nbA_map fun y m => h y (List.mem_cons_of_mem _ m)]
theorem dpA_map {τ : Type} {c : τ → U} {k : Nat} : ∀ {xs : List τ}, (∀ x ∈ xs, dpU (c x) ≤ k) → dpA (xs.map c) ≤ k
  | [], _ => Nat.zero_le _
  | x :: xs, h => by
    have := dpA_map (xs := xs) fun y m => h y (List.mem_cons_of_mem _ m)
    have := h x List.mem_cons_self
    rw [List.map_cons, dpA]
    omega
theorem nb_ints (xs : List Int) : nbA (xs.map .int) = true := nbA_map fun _ _ => rfl
theorem dp_ints (xs : List Int) : dpA (xs.map .int) = 0 := Nat.le_zero.mp (dpA_map fun _ _ => Nat.le_refl 0)
end UX
namespace UX
open PySem PySem.Spec L2
section
variable {P : U → Prop} {i j : Int} {a b : List U} {x y : Str}
theorem wo_add_i (h : P (.int (i + j))) : WpO (addU (.int i) (.int j)) P := ⟨_, rfl, h⟩
theorem wo_add_t (l : a.length + b.length ≤ sizeLine) (h : P (.tup (a ++ b))) : WpO (addU (.tup a) (.tup b)) P := ⟨_, if_pos l, h⟩
theorem wo_sub (h : P (.int (i - j))) : WpO (subU (.int i) (.int j)) P := ⟨_, rfl, h⟩
theorem wo_mul (c : (-18446744073709551616 < i ∧ i < 18446744073709551616) ∨ (-18446744073709551616 < j ∧ j < 18446744073709551616)) (h : P (.int (i * j))) : WpO (mulU (.int i) (.int j)) P := ⟨_, if_pos c, h⟩
theorem wo_mod (c : j ≠ 0) (h : P (.int (i.fmod j))) : WpO (modU (.int i) (.int j)) P := ⟨_, if_pos c, h⟩
theorem wo_modp (c : 0 < j) (h : ∀ r : Int, r = i.fmod j → 0 ≤ r → r < j → P (.int r)) : WpO (modU (.int i) (.int j)) P := ⟨_, if_pos (by omega), h _ rfl (Int.fmod_nonneg_of_pos _ c) (Int.fmod_lt_of_pos _ c)⟩
theorem wo_fdiv (c : j ≠ 0) (c2 : j.natAbs < 1073741824) (h : P (.int (i.fdiv j))) : WpO (fdivU (.int i) (.int j)) P := ⟨_, if_pos ⟨c, c2⟩, h⟩
theorem wo_neg (h : P (.int (-i))) : WpO (negU (.int i)) P := ⟨_, rfl, h⟩
theorem wo_le (h : P (.bl (decide (i ≤ j)))) : WpO (leU (.int i) (.int j)) P := ⟨_, rfl, h⟩
theorem wo_lt (h : P (.bl (decide (i < j)))) : WpO (ltU (.int i) (.int j)) P := ⟨_, rfl, h⟩
theorem wo_gt (h : P (.bl (decide (j < i)))) : WpO (gtU (.int i) (.int j)) P := ⟨_, rfl, h⟩
theorem wo_ge (h : P (.bl (decide (j ≤ i)))) : WpO (geU (.int i) (.int j)) P := ⟨_, rfl, h⟩
theorem wo_eq_i (h : P (.bl (decide (i = j)))) : WpO (eqU (.int i) (.int j)) P := ⟨_, eqU_int i j, h⟩
theorem neU_i (i j : Int) : neU (.int i) (.int j) = some (.bl (!decide (i = j))) := neU_nb (u := .int i) (v := .int j) rfl rfl (Nat.zero_le _) (Nat.zero_le _) (b := decide (i = j)) (by simp)
theorem wo_ne_i (h : P (.bl (!decide (i = j)))) : WpO (neU (.int i) (.int j)) P := ⟨_, neU_i i j, h⟩
theorem wo_eq_s (h : P (.bl (decide (x = y)))) : WpO (eqU (.str x) (.str y)) P := ⟨_, rfl, h⟩
theorem wo_ne_s (h : P (.bl (!decide (x = y)))) : WpO (neU (.str x) (.str y)) P := ⟨_, rfl, h⟩
theorem wo_not {t : Bool} (h : P (.bl (!t))) : WpO (notU (.bl t)) P := ⟨_, rfl, h⟩
theorem wo_bool {t : Bool} {P : Bool → Prop} (h : P t) : WpO (boolU (.bl t)) P := ⟨_, rfl, h⟩
theorem wo_int {P : Int → Prop} (h : P i) : WpO (intU (.int i)) P := ⟨_, rfl, h⟩
theorem wo_len_t (h : P (.int a.length)) : WpO (lenU (.tup a)) P := ⟨_, rfl, h⟩
theorem wo_len_l (h : P (.int a.length)) : WpO (lenU (.lst a)) P := ⟨_, rfl, h⟩
theorem wo_len_f (h : P (.int a.length)) : WpO (lenU (.frl a)) P := ⟨_, rfl, h⟩
theorem wo_tuple_l (h : P (.tup a)) : WpO (tupleU (.lst a)) P := ⟨_, rfl, h⟩
theorem wo_tuple_t (h : P (.tup a)) : WpO (tupleU (.tup a)) P := ⟨_, rfl, h⟩
theorem wo_list_l (h : P (.lst a)) : WpO (listU (.lst a)) P := ⟨_, rfl, h⟩
theorem wo_list_t (h : P (.lst a)) : WpO (listU (.tup a)) P := ⟨_, rfl, h⟩
theorem wo_it_t {P : List U → Prop} (h : P a) : WpO (itU (.tup a)) P := ⟨_, rfl, h⟩
theorem wo_it_l {P : List U → Prop} (h : P a) : WpO (itU (.lst a)) P := ⟨_, rfl, h⟩
theorem wo_it_f {P : List U → Prop} (h : P a) : WpO (itU (.frl a)) P := ⟨_, rfl, h⟩
theorem wo_rng1 {P : List U → Prop} (c : -1000000000 < i ∧ i < 1000000000) (h : P ((List.range i.toNat).map fun i => .int (i : Nat))) : WpO (rng1U (.int i)) P := ⟨_, if_pos ⟨by omega, by omega⟩, h⟩
theorem wo_rng2 {P : List U → Prop} (c : -1000000000 < i ∧ i < 1000000000) (c2 : -1000000000 < j ∧ j < 1000000000) (h : P ((List.range (j - i).toNat).map fun k => .int (i + (k : Nat)))) : WpO (rng2U (.int i) (.int j)) P := ⟨_, if_pos ⟨⟨by omega, by omega⟩, ⟨by omega, by omega⟩⟩, h⟩
theorem atI_get {us : List U} {k : Nat} {u : U} (h : us[k]? = some u) : atI us (k : Int) = some u := by
  have hk : k < us.length := getElem?_lt h
  unfold atI ixN
  rw [if_pos (by omega), if_pos (by omega)]
  simpa using h
theorem wo_ix_t {u : U} (e : atI a i = some u) (h : P u) : WpO (ixU (.tup a) (.int i)) P := ⟨u, e, h⟩
theorem wo_ix_l {u : U} (e : atI a i = some u) (h : P u) : WpO (ixU (.lst a) (.int i)) P := ⟨u, e, h⟩
theorem wo_sl_t {l h' : Option Int} (h : P (.tup (EL.cut a l h'))) : WpO (slU (.tup a) l h') P := ⟨_, rfl, h⟩
theorem wo_sl_l {l h' : Option Int} (h : P (.lst (EL.cut a l h'))) : WpO (slU (.lst a) l h') P := ⟨_, rfl, h⟩
theorem wo_zip_tt {P : List U → Prop} (h : P (zipL a b)) : WpO (zipU (.tup a) (.tup b)) P := ⟨_, rfl, h⟩
end
theorem wo_isObj {c m : Str} {u x : U} {P : U → Prop} (e : isObj c m u = some x) (h : P x) : WpO (isObj c m u) P := ⟨x, e, h⟩
theorem wo_fld {cs : List Str} {f : Str} {u x : U} {P : U → Prop} (e : fldU cs f u = some x) (h : P x) : WpO (fldU cs f u) P := ⟨x, e, h⟩
theorem if_nt {A B : Prop} (h : B) : IfP (!true) A B := h
theorem if_nf {A B : Prop} (h : A) : IfP (!false) A B := h
theorem lit_le {n : Nat} (h : Nat.ble n sizeLine = true) : n ≤ sizeLine := Nat.le_of_ble_eq_true h
section
variable {α S S' L : Type} {st : Sto} {Q : U → Sto → Prop} {QA : List U → Sto → Prop}
theorem vs_bind2 {Q : α → Sto → Prop} {w : M (U × U)} {k : U → U → M α} (h : Wp w st fun p s => Wp (k p.1 p.2) s Q) : Wp (.bind2 w k) st Q := .bind h
theorem vs_bindS {Q : α → Sto → Prop} {w : M (U × U)} {k : U → M α} (h : Wp w st fun p s => Wp (k p.2) s Q) : Wp (.bindS w k) st Q := .bind h
theorem vs_enum {w : M U} (h : Wp w st fun u s => WpO (enumU u) fun r => QA r s) : Wp (enumW w) st QA := .bind (h.mono fun _ _ h => vs_o h)
theorem vs_keys {w : M U} (h : Wp w st fun u s => WpO (keysL u) fun r => QA r s) : Wp (keysW w) st QA := .bind (h.mono fun _ _ h => vs_o h)
theorem vs_tupR {w : M (List U)} (h : Wp w st fun us s => us.length ≤ sizeLine ∧ Q (.tup us) s) : Wp (tupRW w) st Q := .bind (h.mono fun _ _ ⟨l, q⟩ => .o (if_pos l) q)
theorem vs_lstR {w : M (List U)} (h : Wp w st fun us s => us.length ≤ sizeLine ∧ Q (.lst us) s) : Wp (lstRW w) st Q := .bind (h.mono fun _ _ ⟨l, q⟩ => .o (if_pos l) q)
theorem vs_xitem {QX : U × U → Sto → Prop} {wd : M U} {wx : M (U × U)} (h : Wp wd st fun d s => Wp wx s fun p s => WpO (itemU d p.1) fun u => QX (u, p.2) s) : Wp (xitemM wd wx) st QX :=
  .bind (h.mono fun d _ h => .bind (h.mono fun p _ ⟨u, e, q⟩ => .o (by rw [e]; rfl) q))
theorem vs_itX {QX : List U × U → Sto → Prop} {w : M (U × U)} (h : Wp w st fun p s => WpO (itU p.1) fun us => QX (us, p.2) s) : Wp (itX w) st QX :=
  .bind (h.mono fun p _ ⟨u, e, q⟩ => .o (by rw [e]; rfl) q)
end
section
variable {P : U → Prop} {i j : Int} {a b : List U} {x y : Str}
theorem wo_ix0 {a : Int} {r : List Int} (h : P (.int a)) : WpO (ixU (tupI (a :: r)) (.int 0)) P := ⟨.int a, atI_get (us := (a :: r).map U.int) (k := 0) rfl, h⟩
theorem wo_ix1 {a b : Int} {r : List Int} (h : P (.int b)) : WpO (ixU (tupI (a :: b :: r)) (.int 1)) P := ⟨.int b, atI_get (us := (a :: b :: r).map U.int) (k := 1) rfl, h⟩
theorem wo_ix2 {a b c : Int} {r : List Int} (h : P (.int c)) : WpO (ixU (tupI (a :: b :: c :: r)) (.int 2)) P := ⟨.int c, atI_get (us := (a :: b :: c :: r).map U.int) (k := 2) rfl, h⟩
theorem wo_enum_t {P : List U → Prop} (h : P (enumL a)) : WpO (enumU (.tup a)) P := ⟨_, rfl, h⟩
theorem wo_enum_l {P : List U → Prop} (h : P (enumL a)) : WpO (enumU (.lst a)) P := ⟨_, rfl, h⟩
theorem fVs_ints : ∀ xs : List Int, fVs (xs.map .int) = some (xs.map V.int)
  | [] => rfl
  | x :: xs => by rw [List.map_cons, fVs, fVs_ints xs]; rfl
theorem inV_ints (i : Int) (xs : List Int) : inV (.int i) (xs.map V.int) = decide (i ∈ xs) := by
  unfold inV
  rw [List.any_map, Bool.eq_iff_iff, List.any_eq_true, decide_eq_true_eq]
  constructor
  · rintro ⟨z, m, e⟩
    have : z = i := by simpa [eqV] using e
    exact this ▸ m
  · intro m
    exact ⟨i, m, by simp [eqV]⟩
theorem inB_t (i : Int) (xs : List Int) : inB (.int i) (.tup (xs.map .int)) = some (decide (i ∈ xs)) := by
  show (fVs (xs.map .int)).map (fun vs => inV (.int i) vs) = _
  rw [fVs_ints, Option.map_some, inV_ints]
theorem inB_l (i : Int) (xs : List Int) : inB (.int i) (.lst (xs.map .int)) = some (decide (i ∈ xs)) := by
  show (fVs (xs.map .int)).map (fun vs => inV (.int i) vs) = _
  rw [fVs_ints, Option.map_some, inV_ints]
theorem wo_in_t {xs : List Int} (h : P (.bl (decide (i ∈ xs)))) : WpO (inSU (.int i) (.tup (xs.map .int))) P := ⟨_, by unfold inSU; rw [inB_t]; rfl, h⟩
theorem wo_in_l {xs : List Int} (h : P (.bl (decide (i ∈ xs)))) : WpO (inSU (.int i) (.lst (xs.map .int))) P := ⟨_, by unfold inSU; rw [inB_l]; rfl, h⟩
theorem wo_nin_t {xs : List Int} (h : P (.bl (!decide (i ∈ xs)))) : WpO (notInSU (.int i) (.tup (xs.map .int))) P := ⟨_, by unfold notInSU; rw [inB_t]; rfl, h⟩
theorem wo_nin_l {xs : List Int} (h : P (.bl (!decide (i ∈ xs)))) : WpO (notInSU (.int i) (.lst (xs.map .int))) P := ⟨_, by unfold notInSU; rw [inB_l]; rfl, h⟩
theorem eq_bl (s t : Bool) : eqU (.bl s) (.bl t) = some (.bl (s == t)) := by cases s <;> cases t <;> rfl
theorem ne_bl (s t : Bool) : neU (.bl s) (.bl t) = some (.bl (!(s == t))) := by cases s <;> cases t <;> rfl
theorem wo_eq_b {s t : Bool} (h : P (.bl (s == t))) : WpO (eqU (.bl s) (.bl t)) P := ⟨_, eq_bl s t, h⟩
theorem wo_ne_b {s t : Bool} (h : P (.bl (!(s == t)))) : WpO (neU (.bl s) (.bl t)) P := ⟨_, ne_bl s t, h⟩
end
section
variable {ν : Type} {vf : ν → U}
def keyI (x : List Int) : List Key := x.map Sum.inl
def dTU (vf : ν → U) (D : List (List Int × ν)) : U := .dcT (D.map fun p => keyI p.1) (D.map fun p => vf p.2)
theorem keysU_ints : ∀ x : List Int, keysU (x.map .int) = some (keyI x)
  | [] => rfl
  | i :: x => by rw [List.map_cons, keysU, keysU_ints x]; rfl
theorem tkey_tupI (x : List Int) : tkeyU (tupI x) = some (keyI x) := keysU_ints x
theorem keyI_inj : ∀ {x y : List Int}, keyI x = keyI y → x = y
  | [], [], _ => rfl
  | [], _ :: _, h => by simp [keyI] at h
  | _ :: _, [], h => by simp [keyI] at h
  | i :: x, j :: y, h => by
    have h : i = j ∧ x.map Sum.inl = (y.map Sum.inl : List Key) := by simpa [keyI] using h
    rw [h.1, keyI_inj (x := x) (y := y) h.2]
theorem idx_dT (x : List Int) : ∀ D : List (List Int × ν), match D.lookup x with
    | some v => ∃ j, idxK (keyI x) (D.map fun p => keyI p.1) = some j ∧ (D.map fun p => vf p.2)[j]? = some (vf v)
    | none => idxK (keyI x) (D.map fun p => keyI p.1) = none
  | [] => rfl
  | (k, v) :: D => by
    have ih := idx_dT x D
    rw [List.lookup_cons]
    by_cases h : x = k
    · subst h
      rw [show (x == x) = true from by simp]
      exact ⟨0, by rw [List.map_cons, idxK, if_pos rfl], rfl⟩
    · rw [show (x == k) = false from by simpa using h]
      have hk : ¬ keyI k = keyI x := fun e => h (keyI_inj e).symm
      cases e : D.lookup x with
      | none =>
        rw [e] at ih
        simp only at ih ⊢
        rw [List.map_cons, idxK, if_neg hk, ih]; rfl
      | some w =>
        rw [e] at ih
        simp only at ih ⊢
        obtain ⟨j, h1, h2⟩ := ih
        exact ⟨j + 1, by rw [List.map_cons, idxK, if_neg hk, h1]; rfl, by simpa using h2⟩
theorem getU_dT (x : List Int) (D : List (List Int × ν)) : getU (dTU vf D) (tupI x) = some ((D.lookup x).map vf) := by
  have h := idx_dT (vf := vf) x D
  unfold dTU
  simp only [getU, tkey_tupI]
  cases e : D.lookup x with
  | none => rw [e] at h; simp only at h; rw [h]; rfl
  | some v =>
    rw [e] at h
    obtain ⟨j, h1, h2⟩ := h
    simp only [h1, h2]
    rfl
theorem wo_dTin {x : List Int} {D : List (List Int × ν)} {P : U → Prop} (h : P (.bl (D.lookup x).isSome)) : WpO (inU (tupI x) (dTU vf D)) P := ⟨_, by unfold inU; rw [getU_dT]; simp, h⟩
theorem wo_dTnin {x : List Int} {D : List (List Int × ν)} {P : U → Prop} (h : P (.bl (!(D.lookup x).isSome))) : WpO (notInU (tupI x) (dTU vf D)) P := ⟨_, by unfold notInU; rw [getU_dT]; simp, h⟩
theorem wo_dTkeys {D : List (List Int × ν)} {P : List U → Prop} (h : P ((D.map Prod.fst).map tupI)) : WpO (keysL (dTU vf D)) P := ⟨_, by
  show some ((D.map fun p => keyI p.1).map fun k => U.tup (k.map kU)) = _
  rw [List.map_map, List.map_map]
  congr 1
  refine List.map_congr_left fun p _ => ?_
  simp only [Function.comp_apply, tupI, keyI, List.map_map]
  congr 1, h⟩
end
section
variable {st : Sto} {Q : U → Sto → Prop}
end
section
variable {st : Sto} {Q : U → Sto → Prop}
end
section
variable {st : Sto} {Q : U → Sto → Prop}
end
section
variable {τ : Type} [DecidableEq τ] (f : τ → U)
structure KeyF : Prop where
  inj : ∀ x y, nkU (f x) = nkU (f y) → x = y
  ok : ∀ x, ∃ k, nk8 (f x) = some k
  tup : ∀ x, ∃ us, f x = .tup us
end
section
variable {τ : Type} [DecidableEq τ] {f : τ → U}
def dN (f : τ → U) (D : List (τ × U)) : U := .dcN (D.map fun p => f p.1) (D.map (·.2))
end
section
variable {α S L : Type} {st : Sto} {QA : List U → Sto → Prop}
theorem vs_keysN {w : M U} (h : Wp w st fun u s => WpO (keysN u) fun r => QA r s) : Wp (keysNW w) st QA := .bind (h.mono fun _ _ h => vs_o h)
theorem vs_un22 {Q : α → Sto → Prop} {a b c d : U} {k : U → U → U → U → M α} (h : Wp (k a b c d) st Q) : Wp (un22 (.tup [.tup [a, b], .tup [c, d]]) k) st Q := h
theorem vs_un21 {Q : α → Sto → Prop} {a b c : U} {k : U → U → U → M α} (h : Wp (k a b c) st Q) : Wp (un21 (.tup [.tup [a, b], c]) k) st Q := h
end
end UX
namespace UX
open PySem PySem.Spec PyProof.Rows L2
section
variable {α S S1 L : Type} {st : Sto} {c : Str} {Q : U → Sto → Prop}
theorem wp_fnX {w : M (Out Unit Unit)} (hn : ∀ u s, Q u s → unEx u = none) (h : Wp (fnM w) st Q) : Wp (fnX w) st Q := by
  obtain ⟨u, s, e, q⟩ := h
  have hu := hn u s q
  refine ⟨u, s, ?_, q⟩
  obtain ⟨o, s1, e1, e2⟩ := M.bind_inv e
  unfold fnX
  rw [e1]
  cases o with
  | rt v =>
    cases e2
    show (match unEx u with | some c => _ | none => _) = _
    rw [hu]
  | nx _ => cases e2; rfl
  | bk _ => cases e2
  | ct _ => cases e2
theorem vs_exB {w : M α} {k : α → M (Out S L)} {Q : Out S L → Sto → Prop} (h : Wp w st fun a s => Wp (k a) s Q) : Wp (exB w k) st Q := by
  obtain ⟨a, s, e, o, s2, e2, q⟩ := h
  exact ⟨o, s2, by unfold exB; rw [e]; exact e2, q⟩
theorem vs_callX {f : List U → M U} {wa : M (List U)} (h : Wp wa st fun us s => Wp (f us) s Q) : Wp (callX f wa) st Q := by
  obtain ⟨us, s, e, u, s2, e2, q⟩ := h
  exact ⟨u, s2, by unfold callX; rw [e]; exact e2, q⟩
theorem vs_tryK {tab : Str → Option Bool} {wb : M (Out S L)} {sx : U → S} {Q : Out S L → Sto → Prop} (h : Wp wb st fun o s => (∀ u, o = .rt u → unEx u = none) ∧ Q o s) : Wp (tryK tab wb sx) st Q := .bind (h.mono fun o s q => by
  obtain ⟨q1, q2⟩ := q
  cases o with
  | rt u =>
    have e := q1 u rfl
    show Wp (match unEx u with | some c => _ | none => M.ret (Out.rt u)) s Q
    rw [e]
    exact .ret q2
  | nx _ => exact .ret q2
  | bk _ => exact .ret q2
  | ct _ => exact .ret q2)
theorem vs_tryN {tab : Str → Option Bool} {wb : M (Out S L)} {sx : U → S} {Q : Out S L → Sto → Prop} (h : Wp wb st fun o s => ∃ a, o = .nx a ∧ Q (.nx a) s) : Wp (tryK tab wb sx) st Q := vs_tryK (h.mono fun o s q => by
  obtain ⟨a, rfl, q⟩ := q
  exact ⟨(fun u e => nomatch e), q⟩)
def WrE (w : M α) (st : Sto) (e : U) : Prop := w st = some (.er e, st)
theorem wrE_fnX {e : U} {w : M (Out Unit Unit)} (he : unEx (mkEx e) = some e) (h : Wp w st fun o s => o = .rt (mkEx e) ∧ s = st) : WrE (fnX w) st e := by
  obtain ⟨o, s, z, rfl, rfl⟩ := h
  unfold WrE fnX
  rw [z]
  show (match unEx (mkEx e) with | some c => _ | none => _) = _
  rw [he]
theorem wrE_exB {e : U} {w : M α} {k : α → M (Out S L)} (h : WrE w st e) : Wp (exB w k) st fun o s => o = .rt (mkEx e) ∧ s = st := ⟨_, _, by unfold exB; rw [show w st = _ from h], rfl, rfl⟩
theorem wrE_callX {e : U} {f : List U → M U} {wa : M (List U)} (h : Wp wa st fun us s => s = st ∧ WrE (f us) s e) : WrE (callX f wa) st e := by
  obtain ⟨us, s, z, rfl, q⟩ := h
  unfold WrE callX
  rw [z]
  exact q
theorem vs_tryF {e : U} {tab : Str → Option Bool} {wb : M (Out S L)} {sx : U → S} {Q : Out S L → Sto → Prop} (he : unEx (mkEx e) = some e) (h : Wp wb st fun o s => o = .rt (mkEx e) ∧ s = st) (ht : tab (erc e) = some true) (q : Q (.nx (sx (kpt e))) st) : Wp (tryK tab wb sx) st Q := .bind (h.mono fun o s z => by
  obtain ⟨rfl, rfl⟩ := z
  show Wp (match unEx (mkEx e) with | some c => (match tab (erc c) with | some true => M.ret (Out.nx (sx (kpt c))) | _ => M.fail) | none => M.ret (Out.rt (mkEx e))) s Q
  rw [he]
  show Wp (match tab (erc e) with | some true => M.ret (Out.nx (sx (kpt e))) | _ => M.fail) s Q
  rw [ht]
  exact .ret q)
end
mutual
def dataU : U → Bool
  | .non => true
  | .bl _ => true
  | .int _ => true
  | .str _ => true
  | .tup us => dataA us
  | .lst us => dataA us
  | .dct _ us => dataA us
  | _ => false
def dataA : List U → Bool
  | [] => true
  | u :: us => dataU u && dataA us
end
theorem data_mem : ∀ {us : List U}, dataA us = true → ∀ u ∈ us, dataU u = true
  | [], _, u, m => nomatch m
  | v :: us, h, u, m => by
    have h : dataU v = true ∧ dataA us = true := by simpa [dataA] using h
    rcases List.mem_cons.mp m with rfl | m
    · exact h.1
    · exact data_mem h.2 u m
structure Tg (w k : Nat) (u : U) : Prop where
  dt : dataU u = true
  ex : ∃ d, pdD u = some d ∧ d.showable = true ∧ d.depth ≤ k ∧ d.leavesShort 13 = true ∧ d.weight ≤ w
structure TgA (w k : Nat) (us : List U) : Prop where
  dt : dataA us = true
  ex : ∃ ds, pdsD us = some ds ∧ PyData.showableAll ds = true ∧ PyData.depthAll ds ≤ k ∧ PyData.leavesShortAll 13 ds = true ∧ PyData.weightAll ds ≤ us.length * (w + 1)
section
variable {w k : Nat} {u : U} {us : List U}
theorem Tg.mono {w' k' : Nat} (h : Tg w k u) (hw : w ≤ w') (hk : k ≤ k') : Tg w' k' u := by
  obtain ⟨d, h1, h2, h3, h4, h5⟩ := h.ex
  exact ⟨h.dt, d, h1, h2, by omega, h4, by omega⟩
theorem tgA_of : ∀ {us : List U}, (∀ x ∈ us, Tg w k x) → TgA w k us
  | [], _ => ⟨rfl, [], rfl, rfl, Nat.zero_le _, rfl, Nat.zero_le _⟩
  | u :: us, h => by
    obtain ⟨d, h1, h2, h3, h4, h5⟩ := (h u List.mem_cons_self).ex
    have hr := tgA_of (us := us) fun x m => h x (List.mem_cons_of_mem _ m)
    obtain ⟨ds, g1, g2, g3, g4, g5⟩ := hr.ex
    refine ⟨by simp [dataA, (h u List.mem_cons_self).dt, hr.dt], d :: ds, by rw [pdsD, h1, g1], by simp [PyData.showableAll, h2, g2], ?_, by simp [PyData.leavesShortAll, h4, g4], ?_⟩
    · simp only [PyData.depthAll]; omega
    · simp only [PyData.weightAll, List.length_cons, Nat.succ_mul]; omega
theorem tg_tup (h : ∀ x ∈ us, Tg w k x) : Tg (us.length * (w + 1)) (k + 1) (.tup us) := by
  obtain ⟨hd, ds, g1, g2, g3, g4, g5⟩ := tgA_of h
  exact ⟨hd, .tuple ds, by show (pdsD us).map PyData.tuple = _; rw [g1]; rfl, g2, by simp only [PyData.depth]; omega, g4, g5⟩
theorem tg_lst (h : ∀ x ∈ us, Tg w k x) : Tg (us.length * (w + 1)) (k + 1) (.lst us) := by
  obtain ⟨hd, ds, g1, g2, g3, g4, g5⟩ := tgA_of h
  exact ⟨hd, .list ds, by show (pdsD us).map PyData.list = _; rw [g1]; rfl, g2, by simp only [PyData.depth]; omega, g4, g5⟩
theorem tg_non : Tg w k .non := ⟨rfl, .none, rfl, rfl, Nat.zero_le _, rfl, Nat.zero_le _⟩
theorem tg_bl {b : Bool} : Tg w k (.bl b) := ⟨rfl, .bool b, rfl, rfl, Nat.zero_le _, rfl, Nat.zero_le _⟩
theorem tg_int {i : Int} (h : i.natAbs < 1000000000000) (hw : 41 ≤ w) : Tg w k (.int i) := by
  have hl := log_small h
  refine ⟨rfl, .int i, rfl, ?_, Nat.zero_le _, ?_, ?_⟩
  · simp only [PyData.showable]; exact decide_eq_true (by omega)
  · simp only [PyData.leavesShort]; exact decide_eq_true (PyData.shown_int_le h)
  · simp only [PyData.weight]; split <;> omega
def okS (x : Str) : Prop := ∀ c ∈ x.cps.toList, c < 16 ^ 8
theorem tg_str {x : Str} (h : okS x) (hw : x.cps.size ≤ w) : Tg w k (.str x) :=
  ⟨rfl, .str x, rfl, rfl, Nat.zero_le _, by simp only [PyData.leavesShort]; exact List.all_eq_true.mpr fun c m => decide_eq_true (h c m), hw⟩
theorem tgA_mem : ∀ {us : List U} {ds : List PyData} {w k : Nat}, dataA us = true → pdsD us = some ds → PyData.showableAll ds = true → PyData.depthAll ds ≤ k → PyData.leavesShortAll 13 ds = true → PyData.weightAll ds ≤ w → ∀ x ∈ us, Tg w k x
  | [], _, _, _, _, _, _, _, _, _, x, m => nomatch m
  | u :: us, ds, w, k, hd, h1, h2, h3, h4, h5, x, m => by
    have hd : dataU u = true ∧ dataA us = true := by simpa [dataA] using hd
    rw [pdsD] at h1
    cases e1 : pdD u with
    | none => rw [e1] at h1; cases h1
    | some d =>
      cases e2 : pdsD us with
      | none => rw [e1, e2] at h1; cases h1
      | some ds' =>
        rw [e1, e2] at h1
        cases h1
        have h2 : d.showable = true ∧ PyData.showableAll ds' = true := by simpa [PyData.showableAll] using h2
        have h4 : d.leavesShort 13 = true ∧ PyData.leavesShortAll 13 ds' = true := by simpa [PyData.leavesShortAll] using h4
        simp only [PyData.depthAll] at h3
        simp only [PyData.weightAll] at h5
        rcases List.mem_cons.mp m with rfl | m
        · exact ⟨hd.1, d, e1, h2.1, by omega, h4.1, by omega⟩
        · exact tgA_mem hd.2 e2 h2.2 (by omega) h4.2 (by omega) x m
theorem Tg.mem (h : Tg w k (.tup us)) : ∀ x ∈ us, Tg w k x := by
  obtain ⟨hd, d, h1, h2, h3, h4, h5⟩ := h
  obtain ⟨ds, e1, rfl⟩ := Option.map_eq_some_iff.mp (show (pdsD us).map PyData.tuple = some d from h1)
  simp only [PyData.depth] at h3
  exact tgA_mem hd e1 h2 (by omega) h4 h5
theorem Tg.len (h : Tg w k (.tup us)) : us.length ≤ w := by
  obtain ⟨hd, d, h1, h2, h3, h4, h5⟩ := h
  obtain ⟨ds, e1, rfl⟩ := Option.map_eq_some_iff.mp (show (pdsD us).map PyData.tuple = some d from h1)
  have key : ∀ {us : List U} {ds : List PyData}, pdsD us = some ds → us.length ≤ PyData.weightAll ds := by
    intro us
    induction us with
    | nil => intro ds _; exact Nat.zero_le _
    | cons u us ih =>
      intro ds e
      rw [pdsD] at e
      cases e1 : pdD u with
      | none => rw [e1] at e; cases e
      | some d =>
        cases e2 : pdsD us with
        | none => rw [e1, e2] at e; cases e
        | some ds' =>
          rw [e1, e2] at e
          cases e
          have := ih e2
          simp only [PyData.weightAll, List.length_cons]
          omega
  exact Nat.le_trans (key e1) h5
theorem Tg.repr (h : Tg w k u) (hw : w ≤ 1000000) (hk : k ≤ 60) : ∃ x, reprE u = some (.str x) := by
  obtain ⟨hd, d, h1, h2, h3, h4, h5⟩ := h
  have hs := PyData.shown_fits (B := 13) (by decide) (by decide) h4 (by omega)
  refine ⟨d.shown, ?_⟩
  unfold reprE
  rw [h1]
  exact if_pos (by simp [shD, h2, hs]; omega)
mutual
/-- numbers, truths, None, and tuples of such -/
def plainU : U → Bool
  | .non => true
  | .bl _ => true
  | .int _ => true
  | .tup us => plainA us
  | _ => false
def plainA : List U → Bool
  | [] => true
  | u :: us => plainU u && plainA us
end
theorem okS_app {a b : Str} (ha : okS a) (hb : okS b) : okS (a ++ b) := fun c m => by
  have m : c ∈ (a.cps ++ b.cps).toList := m
  rw [Array.toList_append] at m
  exact (List.mem_append.mp m).elim (ha c) (hb c)
theorem okS_of (s : String) : okS (Str.ofString s) := fun c m => by
  rw [Str.ofString_eq_toList] at m
  simp only at m
  obtain ⟨x, _, rfl⟩ := List.mem_map.mp m
  have := x.valid
  have h : x.toNat < 1114112 := by
    have h2 := x.val.toNat_lt
    rcases this with h | ⟨_, h⟩
    · show x.val.toNat < _
      have : x.val.toNat < 0xd800 := h
      omega
    · show x.val.toNat < _
      have : x.val.toNat < 0x110000 := h
      omega
  exact Nat.lt_trans h (by decide)
theorem okS_join {s : Str} (hs : okS s) : ∀ {ts : List Str}, (∀ t ∈ ts, okS t) → okS (Str.join s ts)
  | [], _ => fun c m => nomatch m
  | [t], h => h t (by simp)
  | t :: t2 :: ts, h => by
    have := okS_join hs (ts := t2 :: ts) fun x m => h x (List.mem_cons_of_mem _ m)
    exact okS_app (okS_app (h t List.mem_cons_self) hs) this
mutual
theorem okS_shown : ∀ (u : U) (d : PyData), plainU u = true → pdD u = some d → okS d.shown
  | .non, d, _, e => by cases e; exact okS_of _
  | .bl b, d, _, e => by cases e; cases b <;> exact okS_of _
  | .int i, d, _, e => by cases e; exact okS_of _
  | .tup us, d, h, e => by
    obtain ⟨ds, e1, rfl⟩ := Option.map_eq_some_iff.mp (show (pdsD us).map PyData.tuple = some d from e)
    have := okS_shownAll us ds h e1
    show okS (tupleText (PyData.shownAll ds))
    unfold tupleText
    refine okS_app (okS_app (okS_of _) (okS_join (okS_of _) this)) ?_
    split <;> exact okS_of _
  | .str _, _, h, _ | .lst _, _, h, _ | .dct _ _, _, h, _ | .dcT _ _, _, h, _ | .dcN _ _, _, h, _ | .obj _ _ _, _, h, _ | .top _, _, h, _ | .frl _, _, h, _ | .loc _, _, h, _ | .exc _, _, h, _ | .exo _ _ _, _, h, _ => by simp [plainU] at h
theorem okS_shownAll : ∀ (us : List U) (ds : List PyData), plainA us = true → pdsD us = some ds → ∀ t ∈ PyData.shownAll ds, okS t
  | [], _, _, e, t, m => by cases e; cases m
  | u :: us, ds, h, e, t, m => by
    have h : plainU u = true ∧ plainA us = true := by simpa [plainA] using h
    rw [pdsD] at e
    cases e1 : pdD u with
    | none => rw [e1] at e; cases e
    | some d =>
      cases e2 : pdsD us with
      | none => rw [e1, e2] at e; cases e
      | some ds' =>
        rw [e1, e2] at e
        cases e
        rcases List.mem_cons.mp m with rfl | m
        · exact okS_shown u d h.1 e1
        · exact okS_shownAll us ds' h.2 e2 t m
end
theorem Tg.str (h : Tg w k u) (hp : plainU u = true) (hw : w ≤ 60000) (hk : k ≤ 60) : ∃ x, strE u = some (.str x) ∧ okS x ∧ x.cps.size ≤ 15 * w + 20 := by
  obtain ⟨hd, d, h1, h2, h3, h4, h5⟩ := h
  have hs := PyData.shown_fits (B := 13) (by decide) (by decide) h4 (by omega)
  have hl := PyData.shown_le 13 (by decide) d h4
  have e : strD d = d.shown := by
    cases d with
    | str x =>
      cases u <;> simp [plainU] at hp <;> simp [pdD] at h1
    | _ => rfl
  refine ⟨d.shown, ?_, okS_shown u d hp h1, ?_⟩
  · unfold strE
    rw [h1]
    refine Eq.trans (if_pos ?_) (by rw [e])
    unfold shS
    rw [h2, decide_eq_true (show d.depth ≤ 60 by omega), decide_eq_true hs]
    cases d with
    | int i => simpa [PyData.showable] using h2
    | _ => rfl
  · show d.shown.length ≤ _
    omega
end
structure TgS (w k : Nat) (us : List U) : Prop where
  dt : dataA us = true
  ex : ∃ ds, pdsD us = some ds ∧ PyData.showableAll ds = true ∧ PyData.depthAll ds ≤ k ∧ PyData.leavesShortAll 13 ds = true ∧ PyData.weightAll ds ≤ w
section
variable {w k w' k' : Nat} {u : U} {us vs : List U}
theorem TgS.nil : TgS w k [] := ⟨rfl, [], rfl, rfl, Nat.zero_le _, rfl, Nat.zero_le _⟩
theorem TgS.mono (h : TgS w k us) (hw : w ≤ w') (hk : k ≤ k') : TgS w' k' us := by
  obtain ⟨d, h1, h2, h3, h4, h5⟩ := h.ex
  exact ⟨h.dt, d, h1, h2, by omega, h4, by omega⟩
theorem TgS.cons (h : Tg w k u) (hs : TgS w' k us) : TgS (w + 1 + w') k (u :: us) := by
  obtain ⟨d, h1, h2, h3, h4, h5⟩ := h.ex
  obtain ⟨ds, g1, g2, g3, g4, g5⟩ := hs.ex
  refine ⟨by simp [dataA, h.dt, hs.dt], d :: ds, by rw [pdsD, h1, g1], by simp [PyData.showableAll, h2, g2], ?_, by simp [PyData.leavesShortAll, h4, g4], ?_⟩
  · simp only [PyData.depthAll]; omega
  · simp only [PyData.weightAll]; omega
theorem TgS.inv (h : TgS w k (u :: us)) : ∃ w1 w2, Tg w1 k u ∧ TgS w2 k us ∧ w1 + 1 + w2 ≤ w := by
  obtain ⟨hd, ds, h1, h2, h3, h4, h5⟩ := h
  have hd : dataU u = true ∧ dataA us = true := by simpa [dataA] using hd
  rw [pdsD] at h1
  cases e1 : pdD u with
  | none => rw [e1] at h1; cases h1
  | some d =>
    cases e2 : pdsD us with
    | none => rw [e1, e2] at h1; cases h1
    | some ds' =>
      rw [e1, e2] at h1
      cases h1
      have h2 : d.showable = true ∧ PyData.showableAll ds' = true := by simpa [PyData.showableAll] using h2
      have h4 : d.leavesShort 13 = true ∧ PyData.leavesShortAll 13 ds' = true := by simpa [PyData.leavesShortAll] using h4
      simp only [PyData.depthAll] at h3
      simp only [PyData.weightAll] at h5
      exact ⟨d.weight, PyData.weightAll ds', ⟨hd.1, d, e1, h2.1, by omega, h4.1, Nat.le_refl _⟩, ⟨hd.2, ds', e2, h2.2, by omega, h4.2, Nat.le_refl _⟩, by omega⟩
theorem TgS.one (h : Tg w k u) : TgS (w + 1) k [u] := TgS.cons h (w' := 0) .nil
theorem TgS.app : ∀ {us : List U} {w : Nat}, TgS w k us → TgS w' k vs → TgS (w + w') k (us ++ vs)
  | [], w, _, h' => h'.mono (by omega) (Nat.le_refl _)
  | u :: us, w, h, h' => by
    obtain ⟨w1, w2, a, b, c⟩ := h.inv
    exact (TgS.cons a (b.app h')).mono (by omega) (Nat.le_refl _)
theorem TgS.drop : ∀ {us : List U} {w : Nat} (n : Nat), TgS w k us → TgS w k (us.drop n)
  | us, w, 0, h => h
  | [], w, n + 1, h => h
  | u :: us, w, n + 1, h => by
    obtain ⟨w1, w2, a, b, c⟩ := h.inv
    exact (b.drop n).mono (by omega) (Nat.le_refl _)
theorem TgS.take : ∀ {us : List U} {w : Nat} (n : Nat), TgS w k us → TgS w k (us.take n)
  | us, w, 0, h => .nil
  | [], w, n + 1, h => h
  | u :: us, w, n + 1, h => by
    obtain ⟨w1, w2, a, b, c⟩ := h.inv
    exact (TgS.cons a (b.take n)).mono (by omega) (Nat.le_refl _)
theorem TgS.split : ∀ {us : List U} {w : Nat} (n : Nat), TgS w k us → ∃ w1 w2, TgS w1 k (us.take n) ∧ TgS w2 k (us.drop n) ∧ w1 + w2 ≤ w
  | us, w, 0, h => ⟨0, w, .nil, h, by omega⟩
  | [], w, n + 1, h => ⟨0, w, .nil, h, by omega⟩
  | u :: us, w, n + 1, h => by
    obtain ⟨w1, w2, a, b, c⟩ := h.inv
    obtain ⟨w3, w4, d, e, f⟩ := b.split n
    exact ⟨w1 + 1 + w3, w4, TgS.cons a d, e, by omega⟩
theorem TgS.cut (h : TgS w k us) (a b : Option Int) : TgS w k (EL.cut us a b) := (h.drop _).take _
theorem TgS.mem : ∀ {us : List U} {w : Nat}, TgS w k us → ∀ x ∈ us, ∃ w1, Tg w1 k x ∧ w1 + 1 ≤ w
  | [], _, _, x, m => nomatch m
  | u :: us, w, h, x, m => by
    obtain ⟨w1, w2, a, b, c⟩ := h.inv
    rcases List.mem_cons.mp m with rfl | m
    · exact ⟨w1, a, by omega⟩
    · obtain ⟨w3, d, e⟩ := b.mem x m
      exact ⟨w3, d, by omega⟩
theorem TgS.len : ∀ {us : List U} {w : Nat}, TgS w k us → us.length ≤ w
  | [], _, _ => Nat.zero_le _
  | u :: us, w, h => by
    obtain ⟨w1, w2, a, b, c⟩ := h.inv
    have := b.len
    simp only [List.length_cons]; omega
theorem TgS.rev : ∀ {us : List U} {w : Nat}, TgS w k us → TgS w k us.reverse
  | [], _, h => h
  | u :: us, w, h => by
    obtain ⟨w1, w2, a, b, c⟩ := h.inv
    rw [List.reverse_cons]
    exact (b.rev.app (TgS.one a)).mono (by omega) (Nat.le_refl _)
theorem TgS.tup (h : TgS w k us) : Tg w (k + 1) (.tup us) := by
  obtain ⟨hd, ds, g1, g2, g3, g4, g5⟩ := h
  exact ⟨hd, .tuple ds, by show (pdsD us).map PyData.tuple = _; rw [g1]; rfl, g2, by simp only [PyData.depth]; omega, g4, g5⟩
theorem TgS.lst (h : TgS w k us) : Tg w (k + 1) (.lst us) := by
  obtain ⟨hd, ds, g1, g2, g3, g4, g5⟩ := h
  exact ⟨hd, .list ds, by show (pdsD us).map PyData.list = _; rw [g1]; rfl, g2, by simp only [PyData.depth]; omega, g4, g5⟩
theorem Tg.parts (h : Tg w (k + 1) (.tup us)) : TgS w k us := by
  obtain ⟨hd, d, h1, h2, h3, h4, h5⟩ := h
  obtain ⟨ds, e1, rfl⟩ := Option.map_eq_some_iff.mp (show (pdsD us).map PyData.tuple = some d from h1)
  simp only [PyData.depth] at h3
  exact ⟨hd, ds, e1, h2, by omega, h4, h5⟩
theorem tgS_of : ∀ {us : List U}, (∀ x ∈ us, Tg w k x) → TgS (us.length * (w + 1)) k us
  | [], _ => .nil
  | u :: us, h => (TgS.cons (h u List.mem_cons_self) (tgS_of fun x m => h x (List.mem_cons_of_mem _ m))).mono (by simp only [List.length_cons, Nat.succ_mul]; omega) (Nat.le_refl _)
theorem tgS_ints {rs : List Int} {b : Nat} (h : ∀ r ∈ rs, r.natAbs < 1000000000000) (hb : rs.length ≤ b) : TgS (b * 42) k (rs.map .int) := by
  have := tgS_of (w := 41) (k := k) (us := rs.map .int) fun x m => by
    obtain ⟨r, mr, rfl⟩ := List.mem_map.mp m
    exact tg_int (h r mr) (Nat.le_refl _)
  refine this.mono ?_ (Nat.le_refl _)
  rw [List.length_map]
  exact Nat.mul_le_mul_right _ hb
end
def isTu : U → Bool
  | .tup _ => true
  | _ => false
def isIu : U → Bool
  | .int _ => true
  | .bl _ => true
  | _ => false
def isBu : U → Bool
  | .bl _ => true
  | _ => false
theorem isi_tu {u : U} (h : dataU u = true) : isiU u "tuple" = some (.bl (isTu u)) := by cases u <;> first | rfl | simp [dataU] at h
theorem isi_iu {u : U} (h : dataU u = true) : isiU u "int" = some (.bl (isIu u)) := by cases u <;> first | rfl | simp [dataU] at h
theorem isi_bu {u : U} (h : dataU u = true) : isiU u "bool" = some (.bl (isBu u)) := by cases u <;> first | rfl | simp [dataU] at h
def numU (n : Int) : U → Bool
  | .int a => decide (0 ≤ a) && decide (a < n)
  | _ => false
theorem numU_iff {n : Int} {u : U} : numU n u = true ↔ ∃ a, u = .int a ∧ 0 ≤ a ∧ a < n := by
  cases u <;> simp [numU]
end UX
namespace EK
open PySem PySem.Spec PyProof.Rows L2 UX UY
open EL (op_addK op_mulK op_eqK op_neK op_ltK sl_seqK ix_seqK op_inK op_notInK call_lenK call_tupleK call_listK call_isiK call_reprK cr_anyK cr_allK pi_seqK pi_listK pe_callG FnG rm66 op_inDK op_notInDK)
def tab_KINDS : List (Str × U) := [("again", .top "are_rooms"), ("at last", .top "are_rooms"), ("pairs", .top "are_pairs"), ("ranks", .top "are_ranks")]
abbrev s__law_hand : Stmt := top 31
abbrev N__law_hand : List Str := ["_law_script", "_law_seed", "_law_cell"]
theorem sc__law_hand : FnScope N__law_hand ["_law_script"] (defScope s__law_hand) := ⟨rfl, rfl, rfl, by decide +kernel, rfl, by decide +kernel, by decide +kernel⟩
abbrev s__law_pick : Stmt := top 32
abbrev N__law_pick : List Str := ["_law_hand_here", "_law_many", "_law_digit", "_law_mixed"]
theorem sc__law_pick : FnScope N__law_pick ["_law_hand_here", "_law_many"] (defScope s__law_pick) := ⟨rfl, rfl, rfl, by decide +kernel, rfl, by decide +kernel, by decide +kernel⟩
abbrev s__law_errors_right : Stmt := top 48
abbrev N__law_errors_right : List Str := ["_law_hand_here", "_law_row", "_law_made", "_law_told", "_law_at", "_law_one", "_law_marks", "_law_k"]
theorem sc__law_errors_right : FnScope N__law_errors_right ["_law_hand_here"] (defScope s__law_errors_right) := ⟨rfl, rfl, rfl, by decide +kernel, rfl, by decide +kernel, by decide +kernel⟩
abbrev s__law_of : Stmt := top 33
abbrev N__law_of : List Str := ["_law_hand_here", "_law_some"]
theorem sc__law_of : FnScope N__law_of ["_law_hand_here", "_law_some"] (defScope s__law_of) := ⟨rfl, rfl, rfl, by decide +kernel, rfl, by decide +kernel, by decide +kernel⟩
abbrev s__law_rooms : Stmt := top 34
abbrev N__law_rooms : List Str := ["_law_hand_here", "_law_many", "_law_room"]
theorem sc__law_rooms : FnScope N__law_rooms ["_law_hand_here", "_law_many"] (defScope s__law_rooms) := ⟨rfl, rfl, rfl, by decide +kernel, rfl, by decide +kernel, by decide +kernel⟩
abbrev s__law_by : Stmt := top 35
abbrev N__law_by : List Str := ["_law_hand_here", "_law_kind", "_law_many", "_law_k", "_law_room"]
theorem sc__law_by : FnScope N__law_by ["_law_hand_here", "_law_kind", "_law_many"] (defScope s__law_by) := ⟨rfl, rfl, rfl, by decide +kernel, rfl, by decide +kernel, by decide +kernel⟩
abbrev s__law_hall : Stmt := top 36
abbrev N__law_hall : List Str := ["_law_hand_here", "_law_letters", "_law_upmost", "_law_rooms_here", "_law_kind", "_law_chance", "_law_full", "_law_ways_here", "_law_room", "_law_letter", "_law_ends", "_law_end"]
theorem sc__law_hall : FnScope N__law_hall ["_law_hand_here", "_law_letters", "_law_upmost"] (defScope s__law_hall) := ⟨rfl, rfl, rfl, by decide +kernel, rfl, by decide +kernel, by decide +kernel⟩
abbrev s__law_by_bent : Stmt := top 46
abbrev N__law_by_bent : List Str := ["_law_hand_here", "_law_kind", "_law_rooms_here", "_law_by_here", "_law_way"]
theorem sc__law_by_bent : FnScope N__law_by_bent ["_law_hand_here", "_law_kind", "_law_rooms_here", "_law_by_here"] (defScope s__law_by_bent) := ⟨rfl, rfl, rfl, by decide +kernel, rfl, by decide +kernel, by decide +kernel⟩
abbrev s__law_ways : Stmt := top 45
abbrev N__law_ways : List Str := ["_law_hand_here", "_law_letters", "_law_rooms_here", "_law_ways_here", "_law_way"]
theorem sc__law_ways : FnScope N__law_ways ["_law_hand_here", "_law_letters", "_law_rooms_here", "_law_ways_here"] (defScope s__law_ways) := ⟨rfl, rfl, rfl, by decide +kernel, rfl, by decide +kernel, by decide +kernel⟩
abbrev s__law_bent : Stmt := top 47
abbrev N__law_bent : List Str := ["_law_hand_here", "_law_things", "_law_at", "_law_letters", "_law_rooms_here", "_law_first", "_law_ways_here", "_law_kind", "_law_by_here", "_law_other"]
theorem sc__law_bent : FnScope N__law_bent ["_law_hand_here", "_law_things", "_law_at"] (defScope s__law_bent) := ⟨rfl, rfl, rfl, by decide +kernel, rfl, by decide +kernel, by decide +kernel⟩
abbrev s__law_whole : Stmt := top 38
abbrev N__law_whole : List Str := ["_law_thing", "_law_low", "_law_high"]
theorem sc__law_whole : FnScope N__law_whole ["_law_thing", "_law_low", "_law_high"] (defScope s__law_whole) := ⟨rfl, rfl, rfl, by decide +kernel, rfl, by decide +kernel, by decide +kernel⟩
abbrev s_are_rising : Stmt := top 15
abbrev N_are_rising : List Str := ["some", "one", "other"]
theorem sc_are_rising : FnScope N_are_rising ["some"] (defScope s_are_rising) := ⟨rfl, rfl, rfl, by decide +kernel, rfl, by decide +kernel, by decide +kernel⟩
abbrev s_is_whole : Stmt := top 13
abbrev N_is_whole : List Str := ["thing"]
theorem sc_is_whole : FnScope N_is_whole ["thing"] (defScope s_is_whole) := ⟨rfl, rfl, rfl, by decide +kernel, rfl, by decide +kernel, by decide +kernel⟩
abbrev s_is_below : Stmt := top 14
abbrev N_is_below : List Str := ["thing", "many"]
theorem sc_is_below : FnScope N_is_below ["thing", "many"] (defScope s_is_below) := ⟨rfl, rfl, rfl, by decide +kernel, rfl, by decide +kernel, by decide +kernel⟩
abbrev s_are_rising_below : Stmt := top 16
abbrev N_are_rising_below : List Str := ["thing", "many", "one"]
theorem sc_are_rising_below : FnScope N_are_rising_below ["thing", "many"] (defScope s_are_rising_below) := ⟨rfl, rfl, rfl, by decide +kernel, rfl, by decide +kernel, by decide +kernel⟩
abbrev s_are_rooms : Stmt := top 21
abbrev N_are_rooms : List Str := ["rooms", "thing"]
theorem sc_are_rooms : FnScope N_are_rooms ["rooms", "thing"] (defScope s_are_rooms) := ⟨rfl, rfl, rfl, by decide +kernel, rfl, by decide +kernel, by decide +kernel⟩
abbrev s_are_pairs : Stmt := top 20
abbrev N_are_pairs : List Str := ["rooms", "thing", "pair", "part"]
theorem sc_are_pairs : FnScope N_are_pairs ["rooms", "thing"] (defScope s_are_pairs) := ⟨rfl, rfl, rfl, by decide +kernel, rfl, by decide +kernel, by decide +kernel⟩
abbrev s_are_ranks : Stmt := top 22
abbrev N_are_ranks : List Str := ["rooms", "thing", "one"]
theorem sc_are_ranks : FnScope N_are_ranks ["rooms", "thing"] (defScope s_are_ranks) := ⟨rfl, rfl, rfl, by decide +kernel, rfl, by decide +kernel, by decide +kernel⟩
abbrev s_are_ways : Stmt := top 19
abbrev N_are_ways : List Str := ["letters", "rooms", "thing", "way"]
theorem sc_are_ways : FnScope N_are_ways ["letters", "rooms", "thing"] (defScope s_are_ways) := ⟨rfl, rfl, rfl, by decide +kernel, rfl, by decide +kernel, by decide +kernel⟩
abbrev s_fault_of : Stmt := top 25
abbrev N_fault_of : List Str := ["letters", "rooms", "start", "ways", "kind", "by", "looked"]
theorem sc_fault_of : FnScope N_fault_of ["letters", "rooms", "start", "ways", "kind", "by"] (defScope s_fault_of) := ⟨rfl, rfl, rfl, by decide +kernel, rfl, by decide +kernel, by decide +kernel⟩
abbrev s_Hall___init__ : Stmt := inn 29 0
abbrev N_Hall___init__ : List Str := ["self", "letters", "rooms", "start", "ways", "kind", "by", "why", "room", "letter", "end"]
theorem sc_Hall___init__ : FnScope N_Hall___init__ ["self", "letters", "rooms", "start", "ways", "kind", "by"] (defScope s_Hall___init__) := ⟨rfl, rfl, rfl, by decide +kernel, rfl, by decide +kernel, by decide +kernel⟩
abbrev s__law_built : Stmt := top 37
abbrev N__law_built : List Str := ["_law_things", "_law_letters", "_law_rooms_here", "_law_first", "_law_ways_here", "_law_kind", "_law_by_here"]
theorem sc__law_built : FnScope N__law_built ["_law_things"] (defScope s__law_built) := ⟨rfl, rfl, rfl, by decide +kernel, rfl, by decide +kernel, by decide +kernel⟩
abbrev s__law_refused : Stmt := top 44
abbrev N__law_refused : List Str := ["_law_things", "_law_caught", "e"]
theorem sc__law_refused : FnScope N__law_refused ["_law_things"] (defScope s__law_refused) := ⟨rfl, rfl, rfl, by decide +kernel, rfl, by decide +kernel, by decide +kernel⟩
abbrev s__law_are_rising : Stmt := top 39
abbrev N__law_are_rising : List Str := ["_law_some", "_law_one", "_law_other"]
theorem sc__law_are_rising : FnScope N__law_are_rising ["_law_some"] (defScope s__law_are_rising) := ⟨rfl, rfl, rfl, by decide +kernel, rfl, by decide +kernel, by decide +kernel⟩
abbrev s__law_are_ways : Stmt := top 41
abbrev N__law_are_ways : List Str := ["_law_letters", "_law_rooms_here", "_law_thing", "_law_way"]
theorem sc__law_are_ways : FnScope N__law_are_ways ["_law_letters", "_law_rooms_here", "_law_thing"] (defScope s__law_are_ways) := ⟨rfl, rfl, rfl, by decide +kernel, rfl, by decide +kernel, by decide +kernel⟩
abbrev s__law_are_rooms : Stmt := top 40
abbrev N__law_are_rooms : List Str := ["_law_rooms_here", "_law_thing", "_law_one"]
theorem sc__law_are_rooms : FnScope N__law_are_rooms ["_law_rooms_here", "_law_thing"] (defScope s__law_are_rooms) := ⟨rfl, rfl, rfl, by decide +kernel, rfl, by decide +kernel, by decide +kernel⟩
abbrev s__law_is_by : Stmt := top 42
abbrev N__law_is_by : List Str := ["_law_kind", "_law_rooms_here", "_law_thing", "_law_pair", "_law_one"]
theorem sc__law_is_by : FnScope N__law_is_by ["_law_kind", "_law_rooms_here", "_law_thing"] (defScope s__law_is_by) := ⟨rfl, rfl, rfl, by decide +kernel, rfl, by decide +kernel, by decide +kernel⟩
abbrev s__law_due : Stmt := top 43
abbrev N__law_due : List Str := ["_law_things", "_law_letters", "_law_rooms_here", "_law_first", "_law_ways_here", "_law_kind", "_law_by_here"]
theorem sc__law_due : FnScope N__law_due ["_law_things"] (defScope s__law_due) := ⟨rfl, rfl, rfl, by decide +kernel, rfl, by decide +kernel, by decide +kernel⟩
abbrev s_law : Stmt := top 49
abbrev N_law : List Str := ["_law_script", "_law_hand_here", "_law_turn", "_law_things", "_law_order", "_law_k", "_law_bent_here", "_law_parts", "_law_kinds"]
theorem sc_law : FnScope N_law ["_law_script"] (defScope s_law) := ⟨rfl, rfl, rfl, by decide +kernel, rfl, by decide +kernel, by decide +kernel⟩
abbrev s_NoHall___init__ : Stmt := inn 3 0
abbrev N_NoHall___init__ : List Str := ["self", "why"]
theorem sc_NoHall___init__ : FnScope N_NoHall___init__ ["self", "why"] (defScope s_NoHall___init__) := ⟨rfl, rfl, rfl, by decide +kernel, rfl, by decide +kernel, by decide +kernel⟩
abbrev s_NoGame___init__ : Stmt := inn 4 0
abbrev N_NoGame___init__ : List Str := ["self", "why"]
theorem sc_NoGame___init__ : FnScope N_NoGame___init__ ["self", "why"] (defScope s_NoGame___init__) := ⟨rfl, rfl, rfl, by decide +kernel, rfl, by decide +kernel, by decide +kernel⟩
abbrev s_NoText___init__ : Stmt := inn 5 0
abbrev N_NoText___init__ : List Str := ["self", "row"]
theorem sc_NoText___init__ : FnScope N_NoText___init__ ["self", "row"] (defScope s_NoText___init__) := ⟨rfl, rfl, rfl, by decide +kernel, rfl, by decide +kernel, by decide +kernel⟩
abbrev s_NoSort___init__ : Stmt := inn 6 0
abbrev N_NoSort___init__ : List Str := ["self", "asked"]
theorem sc_NoSort___init__ : FnScope N_NoSort___init__ ["self", "asked"] (defScope s_NoSort___init__) := ⟨rfl, rfl, rfl, by decide +kernel, rfl, by decide +kernel, by decide +kernel⟩
abbrev s_NoName___init__ : Stmt := inn 7 0
abbrev N_NoName___init__ : List Str := ["self", "name"]
theorem sc_NoName___init__ : FnScope N_NoName___init__ ["self", "name"] (defScope s_NoName___init__) := ⟨rfl, rfl, rfl, by decide +kernel, rfl, by decide +kernel, by decide +kernel⟩
structure En (w : World) (K : PySem.W.Frag) (mg : Str → Option Value) where
  sysd : SysD K
  m_ValueError : mg "ValueError" = none
  m_all : mg "all" = none
  m_bool : mg "bool" = none
  m_enumerate : mg "enumerate" = none
  m_int : mg "int" = none
  m_isinstance : mg "isinstance" = none
  m_len : mg "len" = none
  m_list : mg "list" = none
  m_max : mg "max" = none
  m_range : mg "range" = none
  m_repr : mg "repr" = none
  m_str : mg "str" = none
  m_tuple : mg "tuple" = none
  m_zip : mg "zip" = none
  g_Unlike : mg "Unlike" = some (.ref (He.ga K "Unlike"))
  g_TooMany : mg "TooMany" = some (.ref (He.ga K "TooMany"))
  g_NotCertain : mg "NotCertain" = some (.ref (He.ga K "NotCertain"))
  g_NoLine : mg "NoLine" = some (.ref (He.ga K "NoLine"))
  g_NoHall : mg "NoHall" = some (.ref (He.ga K "NoHall"))
  g_NoGame : mg "NoGame" = some (.ref (He.ga K "NoGame"))
  g_NoText : mg "NoText" = some (.ref (He.ga K "NoText"))
  g_NoSort : mg "NoSort" = some (.ref (He.ga K "NoSort"))
  g_NoName : mg "NoName" = some (.ref (He.ga K "NoName"))
  g_HallError : mg "HallError" = some (.ref (He.ga K "HallError"))
  xi_NoHall : ExcC K (He.ga K "NoHall")
  xm_NoHall_HallError : PySem.W.exmOne K (.ref (He.ga K "NoHall")) (.ref (He.ga K "HallError")) = some true
  kit_NoHall_NoHall : PySem.W.kitOne K (.ref (He.ga K "NoHall")) (.ref (He.ga K "NoHall")) = some true
  kit_NoHall_NoGame : PySem.W.kitOne K (.ref (He.ga K "NoHall")) (.ref (He.ga K "NoGame")) = some false
  kit_NoHall_NoText : PySem.W.kitOne K (.ref (He.ga K "NoHall")) (.ref (He.ga K "NoText")) = some false
  kit_NoHall_NoSort : PySem.W.kitOne K (.ref (He.ga K "NoHall")) (.ref (He.ga K "NoSort")) = some false
  kit_NoHall_NoName : PySem.W.kitOne K (.ref (He.ga K "NoHall")) (.ref (He.ga K "NoName")) = some false
  kit_NoHall_Unlike : PySem.W.kitOne K (.ref (He.ga K "NoHall")) (.ref (He.ga K "Unlike")) = some false
  kit_NoHall_TooMany : PySem.W.kitOne K (.ref (He.ga K "NoHall")) (.ref (He.ga K "TooMany")) = some false
  kit_NoHall_NotCertain : PySem.W.kitOne K (.ref (He.ga K "NoHall")) (.ref (He.ga K "NotCertain")) = some false
  kit_NoHall_NoLine : PySem.W.kitOne K (.ref (He.ga K "NoHall")) (.ref (He.ga K "NoLine")) = some false
  kit_NoHall_HallError : PySem.W.kitOne K (.ref (He.ga K "NoHall")) (.ref (He.ga K "HallError")) = some true
  kit_NoHall_ValueError : PySem.W.kitOne K (.ref (He.ga K "NoHall")) (.type "ValueError") = some true
  kitA_NoHall_0 : PySem.W.kitAny K (.ref (He.ga K "NoHall")) [.ref (He.ga K "NoGame"), .ref (He.ga K "NoLine"), .ref (He.ga K "NoName"), .ref (He.ga K "NoSort"), .ref (He.ga K "NoText"), .ref (He.ga K "NotCertain"), .ref (He.ga K "TooMany"), .ref (He.ga K "Unlike")] = some false
  xi_NoGame : ExcC K (He.ga K "NoGame")
  xm_NoGame_HallError : PySem.W.exmOne K (.ref (He.ga K "NoGame")) (.ref (He.ga K "HallError")) = some true
  kit_NoGame_NoHall : PySem.W.kitOne K (.ref (He.ga K "NoGame")) (.ref (He.ga K "NoHall")) = some false
  kit_NoGame_NoGame : PySem.W.kitOne K (.ref (He.ga K "NoGame")) (.ref (He.ga K "NoGame")) = some true
  kit_NoGame_NoText : PySem.W.kitOne K (.ref (He.ga K "NoGame")) (.ref (He.ga K "NoText")) = some false
  kit_NoGame_NoSort : PySem.W.kitOne K (.ref (He.ga K "NoGame")) (.ref (He.ga K "NoSort")) = some false
  kit_NoGame_NoName : PySem.W.kitOne K (.ref (He.ga K "NoGame")) (.ref (He.ga K "NoName")) = some false
  kit_NoGame_Unlike : PySem.W.kitOne K (.ref (He.ga K "NoGame")) (.ref (He.ga K "Unlike")) = some false
  kit_NoGame_TooMany : PySem.W.kitOne K (.ref (He.ga K "NoGame")) (.ref (He.ga K "TooMany")) = some false
  kit_NoGame_NotCertain : PySem.W.kitOne K (.ref (He.ga K "NoGame")) (.ref (He.ga K "NotCertain")) = some false
  kit_NoGame_NoLine : PySem.W.kitOne K (.ref (He.ga K "NoGame")) (.ref (He.ga K "NoLine")) = some false
  kit_NoGame_HallError : PySem.W.kitOne K (.ref (He.ga K "NoGame")) (.ref (He.ga K "HallError")) = some true
  kit_NoGame_ValueError : PySem.W.kitOne K (.ref (He.ga K "NoGame")) (.type "ValueError") = some true
  kitA_NoGame_0 : PySem.W.kitAny K (.ref (He.ga K "NoGame")) [.ref (He.ga K "NoGame"), .ref (He.ga K "NoLine"), .ref (He.ga K "NoName"), .ref (He.ga K "NoSort"), .ref (He.ga K "NoText"), .ref (He.ga K "NotCertain"), .ref (He.ga K "TooMany"), .ref (He.ga K "Unlike")] = some true
  xi_NoText : ExcC K (He.ga K "NoText")
  xm_NoText_HallError : PySem.W.exmOne K (.ref (He.ga K "NoText")) (.ref (He.ga K "HallError")) = some true
  kit_NoText_NoHall : PySem.W.kitOne K (.ref (He.ga K "NoText")) (.ref (He.ga K "NoHall")) = some false
  kit_NoText_NoGame : PySem.W.kitOne K (.ref (He.ga K "NoText")) (.ref (He.ga K "NoGame")) = some false
  kit_NoText_NoText : PySem.W.kitOne K (.ref (He.ga K "NoText")) (.ref (He.ga K "NoText")) = some true
  kit_NoText_NoSort : PySem.W.kitOne K (.ref (He.ga K "NoText")) (.ref (He.ga K "NoSort")) = some false
  kit_NoText_NoName : PySem.W.kitOne K (.ref (He.ga K "NoText")) (.ref (He.ga K "NoName")) = some false
  kit_NoText_Unlike : PySem.W.kitOne K (.ref (He.ga K "NoText")) (.ref (He.ga K "Unlike")) = some false
  kit_NoText_TooMany : PySem.W.kitOne K (.ref (He.ga K "NoText")) (.ref (He.ga K "TooMany")) = some false
  kit_NoText_NotCertain : PySem.W.kitOne K (.ref (He.ga K "NoText")) (.ref (He.ga K "NotCertain")) = some false
  kit_NoText_NoLine : PySem.W.kitOne K (.ref (He.ga K "NoText")) (.ref (He.ga K "NoLine")) = some false
  kit_NoText_HallError : PySem.W.kitOne K (.ref (He.ga K "NoText")) (.ref (He.ga K "HallError")) = some true
  kit_NoText_ValueError : PySem.W.kitOne K (.ref (He.ga K "NoText")) (.type "ValueError") = some true
  kitA_NoText_0 : PySem.W.kitAny K (.ref (He.ga K "NoText")) [.ref (He.ga K "NoGame"), .ref (He.ga K "NoLine"), .ref (He.ga K "NoName"), .ref (He.ga K "NoSort"), .ref (He.ga K "NoText"), .ref (He.ga K "NotCertain"), .ref (He.ga K "TooMany"), .ref (He.ga K "Unlike")] = some true
  xi_NoSort : ExcC K (He.ga K "NoSort")
  xm_NoSort_HallError : PySem.W.exmOne K (.ref (He.ga K "NoSort")) (.ref (He.ga K "HallError")) = some true
  kit_NoSort_NoHall : PySem.W.kitOne K (.ref (He.ga K "NoSort")) (.ref (He.ga K "NoHall")) = some false
  kit_NoSort_NoGame : PySem.W.kitOne K (.ref (He.ga K "NoSort")) (.ref (He.ga K "NoGame")) = some false
  kit_NoSort_NoText : PySem.W.kitOne K (.ref (He.ga K "NoSort")) (.ref (He.ga K "NoText")) = some false
  kit_NoSort_NoSort : PySem.W.kitOne K (.ref (He.ga K "NoSort")) (.ref (He.ga K "NoSort")) = some true
  kit_NoSort_NoName : PySem.W.kitOne K (.ref (He.ga K "NoSort")) (.ref (He.ga K "NoName")) = some false
  kit_NoSort_Unlike : PySem.W.kitOne K (.ref (He.ga K "NoSort")) (.ref (He.ga K "Unlike")) = some false
  kit_NoSort_TooMany : PySem.W.kitOne K (.ref (He.ga K "NoSort")) (.ref (He.ga K "TooMany")) = some false
  kit_NoSort_NotCertain : PySem.W.kitOne K (.ref (He.ga K "NoSort")) (.ref (He.ga K "NotCertain")) = some false
  kit_NoSort_NoLine : PySem.W.kitOne K (.ref (He.ga K "NoSort")) (.ref (He.ga K "NoLine")) = some false
  kit_NoSort_HallError : PySem.W.kitOne K (.ref (He.ga K "NoSort")) (.ref (He.ga K "HallError")) = some true
  kit_NoSort_ValueError : PySem.W.kitOne K (.ref (He.ga K "NoSort")) (.type "ValueError") = some true
  kitA_NoSort_0 : PySem.W.kitAny K (.ref (He.ga K "NoSort")) [.ref (He.ga K "NoGame"), .ref (He.ga K "NoLine"), .ref (He.ga K "NoName"), .ref (He.ga K "NoSort"), .ref (He.ga K "NoText"), .ref (He.ga K "NotCertain"), .ref (He.ga K "TooMany"), .ref (He.ga K "Unlike")] = some true
  xi_NoName : ExcC K (He.ga K "NoName")
  xm_NoName_HallError : PySem.W.exmOne K (.ref (He.ga K "NoName")) (.ref (He.ga K "HallError")) = some true
  kit_NoName_NoHall : PySem.W.kitOne K (.ref (He.ga K "NoName")) (.ref (He.ga K "NoHall")) = some false
  kit_NoName_NoGame : PySem.W.kitOne K (.ref (He.ga K "NoName")) (.ref (He.ga K "NoGame")) = some false
  kit_NoName_NoText : PySem.W.kitOne K (.ref (He.ga K "NoName")) (.ref (He.ga K "NoText")) = some false
  kit_NoName_NoSort : PySem.W.kitOne K (.ref (He.ga K "NoName")) (.ref (He.ga K "NoSort")) = some false
  kit_NoName_NoName : PySem.W.kitOne K (.ref (He.ga K "NoName")) (.ref (He.ga K "NoName")) = some true
  kit_NoName_Unlike : PySem.W.kitOne K (.ref (He.ga K "NoName")) (.ref (He.ga K "Unlike")) = some false
  kit_NoName_TooMany : PySem.W.kitOne K (.ref (He.ga K "NoName")) (.ref (He.ga K "TooMany")) = some false
  kit_NoName_NotCertain : PySem.W.kitOne K (.ref (He.ga K "NoName")) (.ref (He.ga K "NotCertain")) = some false
  kit_NoName_NoLine : PySem.W.kitOne K (.ref (He.ga K "NoName")) (.ref (He.ga K "NoLine")) = some false
  kit_NoName_HallError : PySem.W.kitOne K (.ref (He.ga K "NoName")) (.ref (He.ga K "HallError")) = some true
  kit_NoName_ValueError : PySem.W.kitOne K (.ref (He.ga K "NoName")) (.type "ValueError") = some true
  kitA_NoName_0 : PySem.W.kitAny K (.ref (He.ga K "NoName")) [.ref (He.ga K "NoGame"), .ref (He.ga K "NoLine"), .ref (He.ga K "NoName"), .ref (He.ga K "NoSort"), .ref (He.ga K "NoText"), .ref (He.ga K "NotCertain"), .ref (He.ga K "TooMany"), .ref (He.ga K "Unlike")] = some true
  xi_Unlike : ExcC K (He.ga K "Unlike")
  xm_Unlike_HallError : PySem.W.exmOne K (.ref (He.ga K "Unlike")) (.ref (He.ga K "HallError")) = some true
  kit_Unlike_NoHall : PySem.W.kitOne K (.ref (He.ga K "Unlike")) (.ref (He.ga K "NoHall")) = some false
  kit_Unlike_NoGame : PySem.W.kitOne K (.ref (He.ga K "Unlike")) (.ref (He.ga K "NoGame")) = some false
  kit_Unlike_NoText : PySem.W.kitOne K (.ref (He.ga K "Unlike")) (.ref (He.ga K "NoText")) = some false
  kit_Unlike_NoSort : PySem.W.kitOne K (.ref (He.ga K "Unlike")) (.ref (He.ga K "NoSort")) = some false
  kit_Unlike_NoName : PySem.W.kitOne K (.ref (He.ga K "Unlike")) (.ref (He.ga K "NoName")) = some false
  kit_Unlike_Unlike : PySem.W.kitOne K (.ref (He.ga K "Unlike")) (.ref (He.ga K "Unlike")) = some true
  kit_Unlike_TooMany : PySem.W.kitOne K (.ref (He.ga K "Unlike")) (.ref (He.ga K "TooMany")) = some false
  kit_Unlike_NotCertain : PySem.W.kitOne K (.ref (He.ga K "Unlike")) (.ref (He.ga K "NotCertain")) = some false
  kit_Unlike_NoLine : PySem.W.kitOne K (.ref (He.ga K "Unlike")) (.ref (He.ga K "NoLine")) = some false
  kit_Unlike_HallError : PySem.W.kitOne K (.ref (He.ga K "Unlike")) (.ref (He.ga K "HallError")) = some true
  kit_Unlike_ValueError : PySem.W.kitOne K (.ref (He.ga K "Unlike")) (.type "ValueError") = some true
  kitA_Unlike_0 : PySem.W.kitAny K (.ref (He.ga K "Unlike")) [.ref (He.ga K "NoGame"), .ref (He.ga K "NoLine"), .ref (He.ga K "NoName"), .ref (He.ga K "NoSort"), .ref (He.ga K "NoText"), .ref (He.ga K "NotCertain"), .ref (He.ga K "TooMany"), .ref (He.ga K "Unlike")] = some true
  xi_TooMany : ExcC K (He.ga K "TooMany")
  xm_TooMany_HallError : PySem.W.exmOne K (.ref (He.ga K "TooMany")) (.ref (He.ga K "HallError")) = some true
  kit_TooMany_NoHall : PySem.W.kitOne K (.ref (He.ga K "TooMany")) (.ref (He.ga K "NoHall")) = some false
  kit_TooMany_NoGame : PySem.W.kitOne K (.ref (He.ga K "TooMany")) (.ref (He.ga K "NoGame")) = some false
  kit_TooMany_NoText : PySem.W.kitOne K (.ref (He.ga K "TooMany")) (.ref (He.ga K "NoText")) = some false
  kit_TooMany_NoSort : PySem.W.kitOne K (.ref (He.ga K "TooMany")) (.ref (He.ga K "NoSort")) = some false
  kit_TooMany_NoName : PySem.W.kitOne K (.ref (He.ga K "TooMany")) (.ref (He.ga K "NoName")) = some false
  kit_TooMany_Unlike : PySem.W.kitOne K (.ref (He.ga K "TooMany")) (.ref (He.ga K "Unlike")) = some false
  kit_TooMany_TooMany : PySem.W.kitOne K (.ref (He.ga K "TooMany")) (.ref (He.ga K "TooMany")) = some true
  kit_TooMany_NotCertain : PySem.W.kitOne K (.ref (He.ga K "TooMany")) (.ref (He.ga K "NotCertain")) = some false
  kit_TooMany_NoLine : PySem.W.kitOne K (.ref (He.ga K "TooMany")) (.ref (He.ga K "NoLine")) = some false
  kit_TooMany_HallError : PySem.W.kitOne K (.ref (He.ga K "TooMany")) (.ref (He.ga K "HallError")) = some true
  kit_TooMany_ValueError : PySem.W.kitOne K (.ref (He.ga K "TooMany")) (.type "ValueError") = some true
  kitA_TooMany_0 : PySem.W.kitAny K (.ref (He.ga K "TooMany")) [.ref (He.ga K "NoGame"), .ref (He.ga K "NoLine"), .ref (He.ga K "NoName"), .ref (He.ga K "NoSort"), .ref (He.ga K "NoText"), .ref (He.ga K "NotCertain"), .ref (He.ga K "TooMany"), .ref (He.ga K "Unlike")] = some true
  xi_NotCertain : ExcC K (He.ga K "NotCertain")
  xm_NotCertain_HallError : PySem.W.exmOne K (.ref (He.ga K "NotCertain")) (.ref (He.ga K "HallError")) = some true
  kit_NotCertain_NoHall : PySem.W.kitOne K (.ref (He.ga K "NotCertain")) (.ref (He.ga K "NoHall")) = some false
  kit_NotCertain_NoGame : PySem.W.kitOne K (.ref (He.ga K "NotCertain")) (.ref (He.ga K "NoGame")) = some false
  kit_NotCertain_NoText : PySem.W.kitOne K (.ref (He.ga K "NotCertain")) (.ref (He.ga K "NoText")) = some false
  kit_NotCertain_NoSort : PySem.W.kitOne K (.ref (He.ga K "NotCertain")) (.ref (He.ga K "NoSort")) = some false
  kit_NotCertain_NoName : PySem.W.kitOne K (.ref (He.ga K "NotCertain")) (.ref (He.ga K "NoName")) = some false
  kit_NotCertain_Unlike : PySem.W.kitOne K (.ref (He.ga K "NotCertain")) (.ref (He.ga K "Unlike")) = some false
  kit_NotCertain_TooMany : PySem.W.kitOne K (.ref (He.ga K "NotCertain")) (.ref (He.ga K "TooMany")) = some false
  kit_NotCertain_NotCertain : PySem.W.kitOne K (.ref (He.ga K "NotCertain")) (.ref (He.ga K "NotCertain")) = some true
  kit_NotCertain_NoLine : PySem.W.kitOne K (.ref (He.ga K "NotCertain")) (.ref (He.ga K "NoLine")) = some false
  kit_NotCertain_HallError : PySem.W.kitOne K (.ref (He.ga K "NotCertain")) (.ref (He.ga K "HallError")) = some true
  kit_NotCertain_ValueError : PySem.W.kitOne K (.ref (He.ga K "NotCertain")) (.type "ValueError") = some true
  kitA_NotCertain_0 : PySem.W.kitAny K (.ref (He.ga K "NotCertain")) [.ref (He.ga K "NoGame"), .ref (He.ga K "NoLine"), .ref (He.ga K "NoName"), .ref (He.ga K "NoSort"), .ref (He.ga K "NoText"), .ref (He.ga K "NotCertain"), .ref (He.ga K "TooMany"), .ref (He.ga K "Unlike")] = some true
  xi_NoLine : ExcC K (He.ga K "NoLine")
  xm_NoLine_HallError : PySem.W.exmOne K (.ref (He.ga K "NoLine")) (.ref (He.ga K "HallError")) = some true
  kit_NoLine_NoHall : PySem.W.kitOne K (.ref (He.ga K "NoLine")) (.ref (He.ga K "NoHall")) = some false
  kit_NoLine_NoGame : PySem.W.kitOne K (.ref (He.ga K "NoLine")) (.ref (He.ga K "NoGame")) = some false
  kit_NoLine_NoText : PySem.W.kitOne K (.ref (He.ga K "NoLine")) (.ref (He.ga K "NoText")) = some false
  kit_NoLine_NoSort : PySem.W.kitOne K (.ref (He.ga K "NoLine")) (.ref (He.ga K "NoSort")) = some false
  kit_NoLine_NoName : PySem.W.kitOne K (.ref (He.ga K "NoLine")) (.ref (He.ga K "NoName")) = some false
  kit_NoLine_Unlike : PySem.W.kitOne K (.ref (He.ga K "NoLine")) (.ref (He.ga K "Unlike")) = some false
  kit_NoLine_TooMany : PySem.W.kitOne K (.ref (He.ga K "NoLine")) (.ref (He.ga K "TooMany")) = some false
  kit_NoLine_NotCertain : PySem.W.kitOne K (.ref (He.ga K "NoLine")) (.ref (He.ga K "NotCertain")) = some false
  kit_NoLine_NoLine : PySem.W.kitOne K (.ref (He.ga K "NoLine")) (.ref (He.ga K "NoLine")) = some true
  kit_NoLine_HallError : PySem.W.kitOne K (.ref (He.ga K "NoLine")) (.ref (He.ga K "HallError")) = some true
  kit_NoLine_ValueError : PySem.W.kitOne K (.ref (He.ga K "NoLine")) (.type "ValueError") = some true
  kitA_NoLine_0 : PySem.W.kitAny K (.ref (He.ga K "NoLine")) [.ref (He.ga K "NoGame"), .ref (He.ga K "NoLine"), .ref (He.ga K "NoName"), .ref (He.ga K "NoSort"), .ref (He.ga K "NoText"), .ref (He.ga K "NotCertain"), .ref (He.ga K "TooMany"), .ref (He.ga K "Unlike")] = some true
  x_Unlike : XcF K (He.ga K "Unlike")
  x_TooMany : XcF K (He.ga K "TooMany")
  x_NotCertain : XcF K (He.ga K "NotCertain")
  x_NoLine : XcF K (He.ga K "NoLine")
  oe_NoHall : OexC K (He.ga K "NoHall")
  ei_NoHall : ExI K (He.ga K "NoHall") (He.ma K (He.ga K "NoHall") "__init__")
  no_NoHall : PySem.W.findIn K (.ref (He.ga K "NoHall")) "why" = some none
  fd_NoHall___init__ : FuncData
  F_NoHall___init__ : FunD K "__init__" "NoHall.__init__" (defArgs s_NoHall___init__) (defBody s_NoHall___init__) (defScope s_NoHall___init__) [] [] (He.ma K (He.ga K "NoHall") "__init__") fd_NoHall___init__
  b_NoHall___init__ : Binds K fd_NoHall___init__ ["self", "why"] []
  oe_NoGame : OexC K (He.ga K "NoGame")
  ei_NoGame : ExI K (He.ga K "NoGame") (He.ma K (He.ga K "NoGame") "__init__")
  no_NoGame : PySem.W.findIn K (.ref (He.ga K "NoGame")) "why" = some none
  fd_NoGame___init__ : FuncData
  F_NoGame___init__ : FunD K "__init__" "NoGame.__init__" (defArgs s_NoGame___init__) (defBody s_NoGame___init__) (defScope s_NoGame___init__) [] [] (He.ma K (He.ga K "NoGame") "__init__") fd_NoGame___init__
  b_NoGame___init__ : Binds K fd_NoGame___init__ ["self", "why"] []
  oe_NoText : OexC K (He.ga K "NoText")
  ei_NoText : ExI K (He.ga K "NoText") (He.ma K (He.ga K "NoText") "__init__")
  no_NoText : PySem.W.findIn K (.ref (He.ga K "NoText")) "row" = some none
  fd_NoText___init__ : FuncData
  F_NoText___init__ : FunD K "__init__" "NoText.__init__" (defArgs s_NoText___init__) (defBody s_NoText___init__) (defScope s_NoText___init__) [] [] (He.ma K (He.ga K "NoText") "__init__") fd_NoText___init__
  b_NoText___init__ : Binds K fd_NoText___init__ ["self", "row"] []
  oe_NoSort : OexC K (He.ga K "NoSort")
  ei_NoSort : ExI K (He.ga K "NoSort") (He.ma K (He.ga K "NoSort") "__init__")
  no_NoSort : PySem.W.findIn K (.ref (He.ga K "NoSort")) "asked" = some none
  fd_NoSort___init__ : FuncData
  F_NoSort___init__ : FunD K "__init__" "NoSort.__init__" (defArgs s_NoSort___init__) (defBody s_NoSort___init__) (defScope s_NoSort___init__) [] [] (He.ma K (He.ga K "NoSort") "__init__") fd_NoSort___init__
  b_NoSort___init__ : Binds K fd_NoSort___init__ ["self", "asked"] []
  oe_NoName : OexC K (He.ga K "NoName")
  ei_NoName : ExI K (He.ga K "NoName") (He.ma K (He.ga K "NoName") "__init__")
  no_NoName : PySem.W.findIn K (.ref (He.ga K "NoName")) "name" = some none
  fd_NoName___init__ : FuncData
  F_NoName___init__ : FunD K "__init__" "NoName.__init__" (defArgs s_NoName___init__) (defBody s_NoName___init__) (defScope s_NoName___init__) [] [] (He.ma K (He.ga K "NoName") "__init__") fd_NoName___init__
  b_NoName___init__ : Binds K fd_NoName___init__ ["self", "name"] []
  eb_HallError : EBs K (He.ga K "HallError")
  fd__law_hand : FuncData
  F__law_hand : FunD K "_law_hand" "_law_hand" (defArgs s__law_hand) (defBody s__law_hand) (defScope s__law_hand) [] [] (He.ga K "_law_hand") fd__law_hand
  g__law_hand : mg "_law_hand" = some (.ref (He.ga K "_law_hand"))
  b__law_hand : Binds K fd__law_hand ["_law_script"] []
  fd__law_pick : FuncData
  F__law_pick : FunD K "_law_pick" "_law_pick" (defArgs s__law_pick) (defBody s__law_pick) (defScope s__law_pick) [] [] (He.ga K "_law_pick") fd__law_pick
  g__law_pick : mg "_law_pick" = some (.ref (He.ga K "_law_pick"))
  b__law_pick : Binds K fd__law_pick ["_law_hand_here", "_law_many"] []
  fd__law_errors_right : FuncData
  F__law_errors_right : FunD K "_law_errors_right" "_law_errors_right" (defArgs s__law_errors_right) (defBody s__law_errors_right) (defScope s__law_errors_right) [] [] (He.ga K "_law_errors_right") fd__law_errors_right
  g__law_errors_right : mg "_law_errors_right" = some (.ref (He.ga K "_law_errors_right"))
  b__law_errors_right : Binds K fd__law_errors_right ["_law_hand_here"] []
  fd__law_of : FuncData
  F__law_of : FunD K "_law_of" "_law_of" (defArgs s__law_of) (defBody s__law_of) (defScope s__law_of) [] [] (He.ga K "_law_of") fd__law_of
  g__law_of : mg "_law_of" = some (.ref (He.ga K "_law_of"))
  b__law_of : Binds K fd__law_of ["_law_hand_here", "_law_some"] []
  fd__law_rooms : FuncData
  F__law_rooms : FunD K "_law_rooms" "_law_rooms" (defArgs s__law_rooms) (defBody s__law_rooms) (defScope s__law_rooms) [] [] (He.ga K "_law_rooms") fd__law_rooms
  g__law_rooms : mg "_law_rooms" = some (.ref (He.ga K "_law_rooms"))
  b__law_rooms : Binds K fd__law_rooms ["_law_hand_here", "_law_many"] []
  fd__law_by : FuncData
  F__law_by : FunD K "_law_by" "_law_by" (defArgs s__law_by) (defBody s__law_by) (defScope s__law_by) [] [] (He.ga K "_law_by") fd__law_by
  g__law_by : mg "_law_by" = some (.ref (He.ga K "_law_by"))
  b__law_by : Binds K fd__law_by ["_law_hand_here", "_law_kind", "_law_many"] []
  fd__law_hall : FuncData
  F__law_hall : FunD K "_law_hall" "_law_hall" (defArgs s__law_hall) (defBody s__law_hall) (defScope s__law_hall) [] [] (He.ga K "_law_hall") fd__law_hall
  g__law_hall : mg "_law_hall" = some (.ref (He.ga K "_law_hall"))
  b__law_hall : Binds K fd__law_hall ["_law_hand_here", "_law_letters", "_law_upmost"] []
  fd__law_by_bent : FuncData
  F__law_by_bent : FunD K "_law_by_bent" "_law_by_bent" (defArgs s__law_by_bent) (defBody s__law_by_bent) (defScope s__law_by_bent) [] [] (He.ga K "_law_by_bent") fd__law_by_bent
  g__law_by_bent : mg "_law_by_bent" = some (.ref (He.ga K "_law_by_bent"))
  b__law_by_bent : Binds K fd__law_by_bent ["_law_hand_here", "_law_kind", "_law_rooms_here", "_law_by_here"] []
  fd__law_ways : FuncData
  F__law_ways : FunD K "_law_ways" "_law_ways" (defArgs s__law_ways) (defBody s__law_ways) (defScope s__law_ways) [] [] (He.ga K "_law_ways") fd__law_ways
  g__law_ways : mg "_law_ways" = some (.ref (He.ga K "_law_ways"))
  b__law_ways : Binds K fd__law_ways ["_law_hand_here", "_law_letters", "_law_rooms_here", "_law_ways_here"] []
  fd__law_bent : FuncData
  F__law_bent : FunD K "_law_bent" "_law_bent" (defArgs s__law_bent) (defBody s__law_bent) (defScope s__law_bent) [] [] (He.ga K "_law_bent") fd__law_bent
  g__law_bent : mg "_law_bent" = some (.ref (He.ga K "_law_bent"))
  b__law_bent : Binds K fd__law_bent ["_law_hand_here", "_law_things", "_law_at"] []
  fd__law_whole : FuncData
  F__law_whole : FunD K "_law_whole" "_law_whole" (defArgs s__law_whole) (defBody s__law_whole) (defScope s__law_whole) [] [] (He.ga K "_law_whole") fd__law_whole
  g__law_whole : mg "_law_whole" = some (.ref (He.ga K "_law_whole"))
  b__law_whole : Binds K fd__law_whole ["_law_thing", "_law_low", "_law_high"] []
  fd_are_rising : FuncData
  F_are_rising : FunD K "are_rising" "are_rising" (defArgs s_are_rising) (defBody s_are_rising) (defScope s_are_rising) [] [] (He.ga K "are_rising") fd_are_rising
  g_are_rising : mg "are_rising" = some (.ref (He.ga K "are_rising"))
  b_are_rising : Binds K fd_are_rising ["some"] []
  fd_is_whole : FuncData
  F_is_whole : FunD K "is_whole" "is_whole" (defArgs s_is_whole) (defBody s_is_whole) (defScope s_is_whole) [] [] (He.ga K "is_whole") fd_is_whole
  g_is_whole : mg "is_whole" = some (.ref (He.ga K "is_whole"))
  b_is_whole : Binds K fd_is_whole ["thing"] []
  fd_is_below : FuncData
  F_is_below : FunD K "is_below" "is_below" (defArgs s_is_below) (defBody s_is_below) (defScope s_is_below) [] [] (He.ga K "is_below") fd_is_below
  g_is_below : mg "is_below" = some (.ref (He.ga K "is_below"))
  b_is_below : Binds K fd_is_below ["thing", "many"] []
  fd_are_rising_below : FuncData
  F_are_rising_below : FunD K "are_rising_below" "are_rising_below" (defArgs s_are_rising_below) (defBody s_are_rising_below) (defScope s_are_rising_below) [] [] (He.ga K "are_rising_below") fd_are_rising_below
  g_are_rising_below : mg "are_rising_below" = some (.ref (He.ga K "are_rising_below"))
  b_are_rising_below : Binds K fd_are_rising_below ["thing", "many"] []
  fd_are_rooms : FuncData
  F_are_rooms : FunD K "are_rooms" "are_rooms" (defArgs s_are_rooms) (defBody s_are_rooms) (defScope s_are_rooms) [] [] (He.ga K "are_rooms") fd_are_rooms
  g_are_rooms : mg "are_rooms" = some (.ref (He.ga K "are_rooms"))
  b_are_rooms : Binds K fd_are_rooms ["rooms", "thing"] []
  fd_are_pairs : FuncData
  F_are_pairs : FunD K "are_pairs" "are_pairs" (defArgs s_are_pairs) (defBody s_are_pairs) (defScope s_are_pairs) [] [] (He.ga K "are_pairs") fd_are_pairs
  g_are_pairs : mg "are_pairs" = some (.ref (He.ga K "are_pairs"))
  b_are_pairs : Binds K fd_are_pairs ["rooms", "thing"] []
  fd_are_ranks : FuncData
  F_are_ranks : FunD K "are_ranks" "are_ranks" (defArgs s_are_ranks) (defBody s_are_ranks) (defScope s_are_ranks) [] [] (He.ga K "are_ranks") fd_are_ranks
  g_are_ranks : mg "are_ranks" = some (.ref (He.ga K "are_ranks"))
  b_are_ranks : Binds K fd_are_ranks ["rooms", "thing"] []
  fd_are_ways : FuncData
  F_are_ways : FunD K "are_ways" "are_ways" (defArgs s_are_ways) (defBody s_are_ways) (defScope s_are_ways) [] [] (He.ga K "are_ways") fd_are_ways
  g_are_ways : mg "are_ways" = some (.ref (He.ga K "are_ways"))
  b_are_ways : Binds K fd_are_ways ["letters", "rooms", "thing"] []
  fd_fault_of : FuncData
  F_fault_of : FunD K "fault_of" "fault_of" (defArgs s_fault_of) (defBody s_fault_of) (defScope s_fault_of) [] [] (He.ga K "fault_of") fd_fault_of
  g_fault_of : mg "fault_of" = some (.ref (He.ga K "fault_of"))
  b_fault_of : Binds K fd_fault_of ["letters", "rooms", "start", "ways", "kind", "by"] []
  fd_Hall___init__ : FuncData
  F_Hall___init__ : FunD K "__init__" "Hall.__init__" (defArgs s_Hall___init__) (defBody s_Hall___init__) (defScope s_Hall___init__) [] [] (He.ma K (He.ga K "Hall") "__init__") fd_Hall___init__
  b_Hall___init__ : Binds K fd_Hall___init__ ["self", "letters", "rooms", "start", "ways", "kind", "by"] []
  fd__law_built : FuncData
  F__law_built : FunD K "_law_built" "_law_built" (defArgs s__law_built) (defBody s__law_built) (defScope s__law_built) [] [] (He.ga K "_law_built") fd__law_built
  g__law_built : mg "_law_built" = some (.ref (He.ga K "_law_built"))
  b__law_built : Binds K fd__law_built ["_law_things"] []
  fd__law_refused : FuncData
  F__law_refused : FunD K "_law_refused" "_law_refused" (defArgs s__law_refused) (defBody s__law_refused) (defScope s__law_refused) [] [] (He.ga K "_law_refused") fd__law_refused
  g__law_refused : mg "_law_refused" = some (.ref (He.ga K "_law_refused"))
  b__law_refused : Binds K fd__law_refused ["_law_things"] []
  fd__law_are_rising : FuncData
  F__law_are_rising : FunD K "_law_are_rising" "_law_are_rising" (defArgs s__law_are_rising) (defBody s__law_are_rising) (defScope s__law_are_rising) [] [] (He.ga K "_law_are_rising") fd__law_are_rising
  g__law_are_rising : mg "_law_are_rising" = some (.ref (He.ga K "_law_are_rising"))
  b__law_are_rising : Binds K fd__law_are_rising ["_law_some"] []
  fd__law_are_ways : FuncData
  F__law_are_ways : FunD K "_law_are_ways" "_law_are_ways" (defArgs s__law_are_ways) (defBody s__law_are_ways) (defScope s__law_are_ways) [] [] (He.ga K "_law_are_ways") fd__law_are_ways
  g__law_are_ways : mg "_law_are_ways" = some (.ref (He.ga K "_law_are_ways"))
  b__law_are_ways : Binds K fd__law_are_ways ["_law_letters", "_law_rooms_here", "_law_thing"] []
  fd__law_are_rooms : FuncData
  F__law_are_rooms : FunD K "_law_are_rooms" "_law_are_rooms" (defArgs s__law_are_rooms) (defBody s__law_are_rooms) (defScope s__law_are_rooms) [] [] (He.ga K "_law_are_rooms") fd__law_are_rooms
  g__law_are_rooms : mg "_law_are_rooms" = some (.ref (He.ga K "_law_are_rooms"))
  b__law_are_rooms : Binds K fd__law_are_rooms ["_law_rooms_here", "_law_thing"] []
  fd__law_is_by : FuncData
  F__law_is_by : FunD K "_law_is_by" "_law_is_by" (defArgs s__law_is_by) (defBody s__law_is_by) (defScope s__law_is_by) [] [] (He.ga K "_law_is_by") fd__law_is_by
  g__law_is_by : mg "_law_is_by" = some (.ref (He.ga K "_law_is_by"))
  b__law_is_by : Binds K fd__law_is_by ["_law_kind", "_law_rooms_here", "_law_thing"] []
  fd__law_due : FuncData
  F__law_due : FunD K "_law_due" "_law_due" (defArgs s__law_due) (defBody s__law_due) (defScope s__law_due) [] [] (He.ga K "_law_due") fd__law_due
  g__law_due : mg "_law_due" = some (.ref (He.ga K "_law_due"))
  b__law_due : Binds K fd__law_due ["_law_things"] []
  fd_law : FuncData
  F_law : FunD K "law" "law" (defArgs s_law) (defBody s_law) (defScope s_law) [] [] (He.ga K "law") fd_law
  g_law : mg "law" = some (.ref (He.ga K "law"))
  b_law : Binds K fd_law ["_law_script"] []
  cl_Hall : Cls K (He.ga K "Hall")
  mk_Hall : Mk K (He.ga K "Hall") (He.ma K (He.ga K "Hall") "__init__")
  g_Hall : mg "Hall" = some (.ref (He.ga K "Hall"))
  hf_letters : ∀ c ∈ (["Hall"] : List Str), Cls K (He.ga K c) ∧ NoAttr K (He.ga K c) "letters"
  hf_rooms : ∀ c ∈ (["Hall"] : List Str), Cls K (He.ga K c) ∧ NoAttr K (He.ga K c) "rooms"
  hf_start : ∀ c ∈ (["Hall"] : List Str), Cls K (He.ga K c) ∧ NoAttr K (He.ga K c) "start"
  hf_ways : ∀ c ∈ (["Hall"] : List Str), Cls K (He.ga K c) ∧ NoAttr K (He.ga K c) "ways"
  hf_kind : ∀ c ∈ (["Hall"] : List Str), Cls K (He.ga K c) ∧ NoAttr K (He.ga K c) "kind"
  hf_by : ∀ c ∈ (["Hall"] : List Str), Cls K (He.ga K c) ∧ NoAttr K (He.ga K c) "by"
  hf_goals : ∀ c ∈ (["Hall"] : List Str), Cls K (He.ga K c) ∧ NoAttr K (He.ga K c) "goals"
  g_KINDS : mg "KINDS" = some (.ref (He.ga K "KINDS"))
  T_KINDS : TabF K (He.ga K) w (He.ga K "KINDS") tab_KINDS
  t_MOST_LETTERS : Tok
  k_MOST_LETTERS : mg "MOST_LETTERS" = some (.int 4 t_MOST_LETTERS)
theorem w_NoHall___init__ {P : Program} {w : World} {K : PySem.W.Frag} {mg : Str → Option Value} {bs : Heap} (N : En w K mg) : FnOk P w K mg bs CX0 1 (He.ma K (He.ga K "NoHall") "__init__") N.fd_NoHall___init__ ["self", "why"] (spEI K "why") :=
  fn_ei (y := "no hall") N.F_NoHall___init__ sc_NoHall___init__ (by decide) fun cv A o s H E hr => (pss_cons (ps_expr (pe_obinit N.eb_HallError (by rfl) N.g_HallError (pa_cons (pv 0) (pa_cons pe_str pa_nil)))) (pss_one (ps_ost (pv 0) (pv 1))))
theorem w_NoGame___init__ {P : Program} {w : World} {K : PySem.W.Frag} {mg : Str → Option Value} {bs : Heap} (N : En w K mg) : FnOk P w K mg bs CX0 1 (He.ma K (He.ga K "NoGame") "__init__") N.fd_NoGame___init__ ["self", "why"] (spEI K "why") :=
  fn_ei (y := "no game") N.F_NoGame___init__ sc_NoGame___init__ (by decide) fun cv A o s H E hr => (pss_cons (ps_expr (pe_obinit N.eb_HallError (by rfl) N.g_HallError (pa_cons (pv 0) (pa_cons pe_str pa_nil)))) (pss_one (ps_ost (pv 0) (pv 1))))
theorem w_NoText___init__ {P : Program} {w : World} {K : PySem.W.Frag} {mg : Str → Option Value} {bs : Heap} (N : En w K mg) : FnOk P w K mg bs CX0 1 (He.ma K (He.ga K "NoText") "__init__") N.fd_NoText___init__ ["self", "row"] (spEI K "row") :=
  fn_ei (y := "nothing is so written") N.F_NoText___init__ sc_NoText___init__ (by decide) fun cv A o s H E hr => (pss_cons (ps_expr (pe_obinit N.eb_HallError (by rfl) N.g_HallError (pa_cons (pv 0) (pa_cons pe_str pa_nil)))) (pss_one (ps_ost (pv 0) (pv 1))))
theorem w_NoSort___init__ {P : Program} {w : World} {K : PySem.W.Frag} {mg : Str → Option Value} {bs : Heap} (N : En w K mg) : FnOk P w K mg bs CX0 1 (He.ma K (He.ga K "NoSort") "__init__") N.fd_NoSort___init__ ["self", "asked"] (spEI K "asked") :=
  fn_ei (y := "there is no such sort") N.F_NoSort___init__ sc_NoSort___init__ (by decide) fun cv A o s H E hr => (pss_cons (ps_expr (pe_obinit N.eb_HallError (by rfl) N.g_HallError (pa_cons (pv 0) (pa_cons pe_str pa_nil)))) (pss_one (ps_ost (pv 0) (pv 1))))
theorem w_NoName___init__ {P : Program} {w : World} {K : PySem.W.Frag} {mg : Str → Option Value} {bs : Heap} (N : En w K mg) : FnOk P w K mg bs CX0 1 (He.ma K (He.ga K "NoName") "__init__") N.fd_NoName___init__ ["self", "name"] (spEI K "name") :=
  fn_ei (y := "no hall is so called") N.F_NoName___init__ sc_NoName___init__ (by decide) fun cv A o s H E hr => (pss_cons (ps_expr (pe_obinit N.eb_HallError (by rfl) N.g_HallError (pa_cons (pv 0) (pa_cons pe_str pa_nil)))) (pss_one (ps_ost (pv 0) (pv 1))))
noncomputable def m__law_hand (script_1 : U) : M U := fnM (.bind (.ret (.int 23)) fun seed_2 => (seqO (S := U) (.bind (itW (slW (.ret script_1) noP (someP (.ret (.int 63))))) fun us => forO (fun cell_4 s_3 => (.bind (op2 modU (op2 addU (op2 addU (op2 mulU (.ret s_3) (.ret (.int 6364136223846793))) (op2 modU (.ret cell_4) (.ret (.int 2305843009213693951)))) (.ret (.int 31))) (.ret (.int 2305843009213693951))) fun seed_5 => (nxO seed_5))) us seed_2) fun s_3 => (rtO (.bind (lstW (consA (.bind (lcW (itW (slW (.ret script_1) noP (someP (.ret (.int 63))))) (fun cell_6 => (testW (op2 geU (.ret cell_6) (op2 powU (.ret (.int 10)) (.ret (.int 18)))))) fun cell_6 => (.ret cell_6)) fun u => .o (flatO u)) (consA (.bind (.ret s_3) fun u => .o (leafO u)) nilA))) fun u => .bind (.o (lstO u)) allocM))))
theorem w__law_hand {P : Program} {w : World} {K : PySem.W.Frag} {mg : Str → Option Value} {bs : Heap} (N : En w K mg) : FnOk P w K mg bs CX0 1 (He.ga K "_law_hand") N.fd__law_hand ["_law_script"] (spM ⟨K, He.ga K⟩ (L1 m__law_hand)) :=
  fn_okF N.F__law_hand sc__law_hand (ar1 fun _ => rfl) fun cv A o s H E hr => ⟨_, PSs.nox (pss_cons (ps_set (i := 1) sc__law_hand.nd rfl (.inl rfl) pe_int)
 (pss_cons (ps_for PassesOwn.never rfl (pi_seqK K (pe_slice (sl_seqK K) (pv 0) po_none (po_some pe_int))) (pg_name (i := 2) sc__law_hand.nd rfl (.inl rfl))
 (pss_one (ps_set (i := 1) sc__law_hand.nd rfl (.inl rfl) (pe_op op_modN (pe_op (op_addK K) (pe_op (op_addK K) (pe_op (op_mulK K) (pv 1) pe_int) (pe_op op_modN (pv 2) pe_int)) pe_int) pe_int))))
 (pss_one (ps_ret (pe_lst (pa_cons (pe_lc (own := [("_law_cell", 2)]) (by rfl) sc__law_hand.nd (pi_seqK K (pe_slice (sl_seqK K) (pv 0) po_none (po_some pe_int))) (blkOk_by (own := [("_law_cell", 2)]) (N := N__law_hand) (sc := defScope s__law_hand) (by decide +kernel)) (fun _ _ _ _ _ => (pg_name (i := 2) sc__law_hand.nd rfl (.inl rfl))) (fun _ _ _ _ _ => (pts_one (pt_cmpR op_ge (pv 2) (pe_op op_pow pe_int pe_int) (nomark _)))) (fun _ _ _ _ _ => (pv 2))) (pa_cons (pv 1) pa_nil))))))),
   fun B H0 as0 => ar1 fun script_1 => ⟨_, rfl,
 (blk_set (i := 1) ev_int fun seed_2 =>
 (blk_seq (blk_forL (S := U) [2] [2] (fun s_3 => [some (.im script_1), some (.im s_3), none]) (by rfl) (src_it (ev_sl (EvW.r (ev_var (i := 0) rfl)) eo_none (eo_some (EvW.r ev_int))))
 (fun s_3 cell_4 st r q => ⟨_, tg_name (by decide), (blk_last (blk_set (i := 1) (ev_op ok_mod (EvW.r (ev_op ok_add (EvW.r (ev_op ok_add (EvW.r (ev_op ok_mul (EvW.r (ev_var (i := 1) rfl)) (EvW.r ev_int))) (EvW.r (ev_op ok_mod (EvW.r (ev_var (i := 2) rfl)) (EvW.r ev_int))))) (EvW.r ev_int))) (EvW.r ev_int)) fun seed_5 =>
 (blk_fin [2] (by rfl))))⟩)) fun s_3 =>
 (blk_retC (enf_lst (eanf_cons (enf_flat (en_lc (by rfl) (src_it (ev_sl (EvW.r (ev_var (i := 0) rfl)) eo_none (eo_some (EvW.r ev_int)))) fun cell_6 st r q => ⟨_, tg_name (by decide), (et_test (EvW.r (ev_op ok_ge (EvW.r (ev_var (i := 2) rfl)) (EvW.r (ev_op ok_pow (EvW.r ev_int) (EvW.r ev_int)))))), (ev_var (i := 2) rfl)⟩)) (eanf_cons (enf_leaf (ev_var (i := 1) rfl)) eanf_nil))))))⟩⟩
noncomputable def m__law_pick (hand_here_1 many_2 : U) : M U := fnM (seqO (S := Unit) (whileO (fun s_3 => (andT (testW (.bind (.bind (.bind (.ret hand_here_1) locM) fun c => .bind (.ret (.int 0)) fun n => .o (ixC c n)) fun c => .o (neU c.2.1 (.lst [])))) (testW (op2 eqU (.bind (.bind (.bind (.bind (.ret hand_here_1) locM) fun c => .bind (.ret (.int 0)) fun n => .o (ixC c n)) fun c => .bind (.ret (.int 0)) fun n => .o (ixC c n)) fun c => .o (valC c)) (.ret (.int 0)))))) (fun s_3 => (.bind (.bind (.bind (.ret hand_here_1) locM) fun c => .bind (.ret (.int 0)) fun n => .o (ixC c n)) fun c => .bind (.ret (.int 0)) fun n => .bind (.o (mutC popAtL c [n])) fun d => .bind (putC d.2.1 d.2.2.1) fun _ => (nxO ()))) ()) fun s_3 => (seqO (S := Unit) (iteW (testW (.bind (.bind (.bind (.ret hand_here_1) locM) fun c => .bind (.ret (.int 0)) fun n => .o (ixC c n)) fun c => .o (neU c.2.1 (.lst [])))) (.bind (op2 modU (.bind (.bind (.bind (.bind (.ret hand_here_1) locM) fun c => .bind (.ret (.int 0)) fun n => .o (ixC c n)) fun c => .bind (.ret (.int 0)) fun n => .o (ixC c n)) fun c => .o (valC c)) (.ret many_2)) fun digit_5 => (.bind (op2 fdivU (.bind (.bind (.bind (.bind (.ret hand_here_1) locM) fun c => .bind (.ret (.int 0)) fun n => .o (ixC c n)) fun c => .bind (.ret (.int 0)) fun n => .o (ixC c n)) fun c => .o (valC c)) (.ret many_2)) fun x => .bind (.bind (.bind (.ret hand_here_1) locM) fun c => .bind (.ret (.int 0)) fun n => .o (ixC c n)) fun c => .bind (.ret (.int 0)) fun n => .bind (.o (setItC c n x)) fun d => .bind (putC d.1 d.2.1) fun _ => (rtO (.ret digit_5)))) (nxO ())) fun s_4 => (.bind (op2 modU (op2 addU (op2 mulU (.bind (.bind (.bind (.ret hand_here_1) locM) fun c => .bind (.ret (.int 1)) fun n => .o (ixC c n)) fun c => .o (valC c)) (.ret (.int 3935559000370003))) (.ret (.int 2691343689449507))) (.ret (.int 2305843009213693951))) fun x => .bind (.bind (.ret hand_here_1) locM) fun c => .bind (.ret (.int 1)) fun n => .bind (.o (setItC c n x)) fun d => .bind (putC d.1 d.2.1) fun _ => (.bind (op2 fdivU (.bind (.bind (.bind (.ret hand_here_1) locM) fun c => .bind (.ret (.int 1)) fun n => .o (ixC c n)) fun c => .o (valC c)) (.ret (.int 65537))) fun mixed_6 => (rtO (op2 modU (op2 fdivU (op2 modU (op2 mulU (.ret mixed_6) (op2 addU (op2 modU (.ret mixed_6) (.ret (.int 8191))) (.ret (.int 3)))) (.ret (.int 2305843009213693921))) (.ret (.int 4099))) (.ret many_2)))))))
theorem w__law_pick {P : Program} {w : World} {K : PySem.W.Frag} {mg : Str → Option Value} {bs : Heap} (N : En w K mg) : FnOk P w K mg bs CX0 1 (He.ga K "_law_pick") N.fd__law_pick ["_law_hand_here", "_law_many"] (spM ⟨K, He.ga K⟩ (L2' m__law_pick)) :=
  fn_okF N.F__law_pick sc__law_pick (ar2 fun _ _ => rfl) fun cv A o s H E hr => ⟨_, PSs.nox (pss_cons (ps_while PassesOwn.never (PW.pt (pw_and (pt_cmpR (op_neK K hr.units) (pe_ix (ix_seqK K) (pv 0) pe_int (fun _ _ => rfl)) (pe_lst pa_nil) (nomark _)) (pw_and1 (pt_cmpR (op_eqK K hr.units) (pe_ix (ix_seqK K) (pe_ix (ix_seqK K) (pv 0) pe_int (fun _ _ => rfl)) pe_int (fun _ _ => rfl)) pe_int (nomark _)))))
 (pss_one (ps_expr (pe_bm PySem.F.plainAttrs_list PySem.F.slot_list_pop PySem.F.type_list_pop mt_popAt (pe_ix (ix_seqK K) (pv 0) pe_int (fun _ _ => rfl)) (pa_cons pe_int pa_nil)))))
 (pss_cons (ps_if (pt_cmpR (op_neK K hr.units) (pe_ix (ix_seqK K) (pv 0) pe_int (fun _ _ => rfl)) (pe_lst pa_nil) (nomark _))
 (pss_cons (ps_set (i := 2) sc__law_pick.nd rfl (.inl rfl) (pe_op op_modN (pe_ix (ix_seqK K) (pe_ix (ix_seqK K) (pv 0) pe_int (fun _ _ => rfl)) pe_int (fun _ _ => rfl)) (pv 1)))
 (pss_cons (ps_asg (pe_op op_fdivN (pe_ix (ix_seqK K) (pe_ix (ix_seqK K) (pv 0) pe_int (fun _ _ => rfl)) pe_int (fun _ _ => rfl)) (pv 1)) (pg_sub (pe_ix (ix_seqK K) (pv 0) pe_int (fun _ _ => rfl)) pe_int set_list))
 (pss_one (ps_ret (pv 2)))))
 pss_nil)
 (pss_cons (ps_asg (pe_op op_modN (pe_op (op_addK K) (pe_op (op_mulK K) (pe_ix (ix_seqK K) (pv 0) pe_int (fun _ _ => rfl)) pe_int) pe_int) pe_int) (pg_sub (pv 0) pe_int set_list))
 (pss_cons (ps_set (i := 3) sc__law_pick.nd rfl (.inl rfl) (pe_op op_fdivN (pe_ix (ix_seqK K) (pv 0) pe_int (fun _ _ => rfl)) pe_int))
 (pss_one (ps_ret (pe_op op_modN (pe_op op_fdivN (pe_op op_modN (pe_op (op_mulK K) (pv 3) (pe_op (op_addK K) (pe_op op_modN (pv 3) pe_int) pe_int)) pe_int) pe_int) (pv 1)))))))),
   fun B H0 as0 => ar2 fun hand_here_1 many_2 => ⟨_, rfl,
 (blk_seq (blk_whileL (S := Unit) [] (fun s_3 => [some (.im hand_here_1), some (.im many_2), none, none]) (by rfl) (fun s_3 => (et_and (et_test (EvW.r (ev_neC (ec_ix (ec_loc (ev_var (i := 0) rfl)) eq_int)))) (et_test (EvW.r (ev_op ok_eq (EvW.r (ev_cell (r := false) (ec_ix (ec_ix (ec_loc (ev_var (i := 0) rfl)) eq_int) eq_int))) (EvW.r ev_int))))))
 (fun s_3 => (blk_last (blk_mutC mut_popAt (ec_ix (ec_loc (ev_var (i := 0) rfl)) eq_int) eq_int
 (blk_fin [] (by rfl)))))) fun s_3 =>
 (blk_seq (blk_ifL (S := Unit) (fun s_4 => [some (.im hand_here_1), some (.im many_2), none, none]) (et_test (EvW.r (ev_neC (ec_ix (ec_loc (ev_var (i := 0) rfl)) eq_int))))
 (blk_set (i := 2) (ev_op ok_mod (EvW.r (ev_cell (r := false) (ec_ix (ec_ix (ec_loc (ev_var (i := 0) rfl)) eq_int) eq_int))) (EvW.r (ev_var (i := 1) rfl))) fun digit_5 =>
 (blk_setC (ev_op ok_fdiv (EvW.r (ev_cell (r := false) (ec_ix (ec_ix (ec_loc (ev_var (i := 0) rfl)) eq_int) eq_int))) (EvW.r (ev_var (i := 1) rfl))) (ec_ix (ec_loc (ev_var (i := 0) rfl)) eq_int) eq_int
 (blk_ret (EvW.f (ev_var (i := 2) rfl)))))
 (blk_fin [2] (by rfl))) fun s_4 =>
 (blk_setC (ev_op ok_mod (EvW.r (ev_op ok_add (EvW.r (ev_op ok_mul (EvW.r (ev_cell (r := false) (ec_ix (ec_loc (ev_var (i := 0) rfl)) eq_int))) (EvW.r ev_int))) (EvW.r ev_int))) (EvW.r ev_int)) (ec_loc (ev_var (i := 0) rfl)) eq_int
 (blk_set (i := 3) (ev_op ok_fdiv (EvW.r (ev_cell (r := false) (ec_ix (ec_loc (ev_var (i := 0) rfl)) eq_int))) (EvW.r ev_int)) fun mixed_6 =>
 (blk_ret (EvW.f (ev_op ok_mod (EvW.r (ev_op ok_fdiv (EvW.r (ev_op ok_mod (EvW.r (ev_op ok_mul (EvW.r (ev_var (i := 3) rfl)) (EvW.r (ev_op ok_add (EvW.r (ev_op ok_mod (EvW.r (ev_var (i := 3) rfl)) (EvW.r ev_int))) (EvW.r ev_int))))) (EvW.r ev_int))) (EvW.r ev_int))) (EvW.r (ev_var (i := 1) rfl)))))))))⟩⟩
noncomputable def m__law_errors_right (hand_here_1 : U) : M U := fnM (.bind (callM (L2' m__law_pick) (consA (.ret hand_here_1) (consA (op2 powU (.ret (.int 10)) (.ret (.int 9))) nilA))) fun row_2 => (.bind (lstW (consA (.bind (.ret (.str "ways")) fun u => .ret (.exo "NoHall" "why" u)) (consA (.bind (.ret (.str "ranks")) fun u => .ret (.exo "NoGame" "why" u)) (consA (.bind (.ret row_2) fun u => .ret (.exo "NoText" "row" u)) (consA (.bind (tupW (consA (.ret row_2) nilA)) fun u => .ret (.exo "NoSort" "asked" u)) (consA (.bind (.ret U.non) fun u => .ret (.exo "NoName" "name" u)) (consA (.ret (.exc "Unlike")) (consA (.ret (.exc "TooMany")) nilA)))))))) fun made_3 => (.bind (op2 addU (.ret made_3) (lstW (consA (.ret (.exc "NotCertain")) (consA (.ret (.exc "NoLine")) nilA)))) fun made_4 => (.bind (lstW (consA (op1 (xfU (tabX [("NoHall", true), ("NoGame", true), ("NoText", false), ("NoSort", false), ("NoName", false), ("Unlike", false), ("TooMany", false), ("NotCertain", false), ("NoLine", false)]) "why") (op2 ixU (.ret made_4) (.ret (.int 0)))) (consA (op1 (xfU (tabX [("NoHall", true), ("NoGame", true), ("NoText", false), ("NoSort", false), ("NoName", false), ("Unlike", false), ("TooMany", false), ("NotCertain", false), ("NoLine", false)]) "why") (op2 ixU (.ret made_4) (.ret (.int 1)))) (consA (op1 (xfU (tabX [("NoHall", false), ("NoGame", false), ("NoText", true), ("NoSort", false), ("NoName", false), ("Unlike", false), ("TooMany", false), ("NotCertain", false), ("NoLine", false)]) "row") (op2 ixU (.ret made_4) (.ret (.int 2)))) (consA (op1 (xfU (tabX [("NoHall", false), ("NoGame", false), ("NoText", false), ("NoSort", true), ("NoName", false), ("Unlike", false), ("TooMany", false), ("NotCertain", false), ("NoLine", false)]) "asked") (op2 ixU (.ret made_4) (.ret (.int 3)))) (consA (op1 (xfU (tabX [("NoHall", false), ("NoGame", false), ("NoText", false), ("NoSort", false), ("NoName", true), ("Unlike", false), ("TooMany", false), ("NotCertain", false), ("NoLine", false)]) "name") (op2 ixU (.ret made_4) (.ret (.int 4)))) nilA)))))) fun told_5 => (seqO (S := Unit) (iteW (testW (op2 neU (op1 reprE (.ret told_5)) (op1 reprE (lstW (consA (.ret (.str "ways")) (consA (.ret (.str "ranks")) (consA (.ret row_2) (consA (tupW (consA (.ret row_2) nilA)) (consA (.ret U.non) nilA))))))))) (rtO (.ret (U.bl false))) (nxO ())) fun s_6 => (seqO (S := Unit) (.bind (enumW (.ret made_4)) fun us => forO (fun e_15 s_7 => un2 e_15 fun at_8 one_9 => (.bind (lstW (consA (op1 (isKU (tabX [("NoHall", true), ("NoGame", false), ("NoText", false), ("NoSort", false), ("NoName", false), ("Unlike", false), ("TooMany", false), ("NotCertain", false), ("NoLine", false)])) (.ret one_9)) (consA (op1 (isKU (tabX [("NoHall", false), ("NoGame", true), ("NoText", false), ("NoSort", false), ("NoName", false), ("Unlike", false), ("TooMany", false), ("NotCertain", false), ("NoLine", false)])) (.ret one_9)) (consA (op1 (isKU (tabX [("NoHall", false), ("NoGame", false), ("NoText", true), ("NoSort", false), ("NoName", false), ("Unlike", false), ("TooMany", false), ("NotCertain", false), ("NoLine", false)])) (.ret one_9)) (consA (op1 (isKU (tabX [("NoHall", false), ("NoGame", false), ("NoText", false), ("NoSort", true), ("NoName", false), ("Unlike", false), ("TooMany", false), ("NotCertain", false), ("NoLine", false)])) (.ret one_9)) nilA))))) fun marks_10 => (.bind (op2 addU (.ret marks_10) (lstW (consA (op1 (isKU (tabX [("NoHall", false), ("NoGame", false), ("NoText", false), ("NoSort", false), ("NoName", true), ("Unlike", false), ("TooMany", false), ("NotCertain", false), ("NoLine", false)])) (.ret one_9)) (consA (op1 (isKU (tabX [("NoHall", false), ("NoGame", false), ("NoText", false), ("NoSort", false), ("NoName", false), ("Unlike", true), ("TooMany", false), ("NotCertain", false), ("NoLine", false)])) (.ret one_9)) (consA (op1 (isKU (tabX [("NoHall", false), ("NoGame", false), ("NoText", false), ("NoSort", false), ("NoName", false), ("Unlike", false), ("TooMany", true), ("NotCertain", false), ("NoLine", false)])) (.ret one_9)) nilA))))) fun marks_11 => (.bind (op2 addU (.ret marks_11) (lstW (consA (op1 (isKU (tabX [("NoHall", false), ("NoGame", false), ("NoText", false), ("NoSort", false), ("NoName", false), ("Unlike", false), ("TooMany", false), ("NotCertain", true), ("NoLine", false)])) (.ret one_9)) (consA (op1 (isKU (tabX [("NoHall", false), ("NoGame", false), ("NoText", false), ("NoSort", false), ("NoName", false), ("Unlike", false), ("TooMany", false), ("NotCertain", false), ("NoLine", true)])) (.ret one_9)) nilA)))) fun marks_12 => (iteW (orT (testW (op2 neU (.ret marks_12) (lcW (rng1W (.ret (.int 9))) (fun k_13 => (.ret true)) fun k_13 => (op2 eqU (.ret k_13) (.ret at_8))))) (orT (notT (testW (op1 (isKU (tabX [("NoHall", true), ("NoGame", true), ("NoText", true), ("NoSort", true), ("NoName", true), ("Unlike", true), ("TooMany", true), ("NotCertain", true), ("NoLine", true)])) (.ret one_9)))) (notT (testW (op1 (isKU (tabX [("NoHall", true), ("NoGame", true), ("NoText", true), ("NoSort", true), ("NoName", true), ("Unlike", true), ("TooMany", true), ("NotCertain", true), ("NoLine", true)])) (.ret one_9)))))) (rtO (.ret (U.bl false))) (nxO ())))))) us ()) fun s_7 => (rtO (.ret (U.bl true)))))))))
theorem w__law_errors_right {P : Program} {w : World} {K : PySem.W.Frag} {mg : Str → Option Value} {bs : Heap} (N : En w K mg) : FnG P w K mg bs CX0 3 (He.ga K "_law_errors_right") N.fd__law_errors_right ["_law_hand_here"] (spM ⟨K, He.ga K⟩ (L1 m__law_errors_right)) :=
  fn_ok N.F__law_errors_right sc__law_errors_right (ar1 fun _ => rfl) fun cv A o s H E gd hr => ⟨_, PSs.nox (pss_cons (ps_set (i := 1) sc__law_errors_right.nd rfl (.inl rfl) (pe_call (w__law_pick N) (hr.mono (by decide)) (by rfl) N.g__law_pick N.F__law_pick.kp N.b__law_pick .nil pass0 (pa_cons (pv 0) (pa_cons (pe_op op_pow pe_int pe_int) pa_nil))))
 (pss_cons (ps_set (i := 2) sc__law_errors_right.nd rfl (.inl rfl) (pe_lst (pa_cons (pe_mk rfl (pmk_oex N.oe_NoHall N.ei_NoHall.ii N.ei_NoHall.ti (w_NoHall___init__ N) (hr.mono (by decide)) N.b_NoHall___init__ .nil pass0 (by rfl) N.g_NoHall (pa_cons pe_str pa_nil))) (pa_cons (pe_mk rfl (pmk_oex N.oe_NoGame N.ei_NoGame.ii N.ei_NoGame.ti (w_NoGame___init__ N) (hr.mono (by decide)) N.b_NoGame___init__ .nil pass0 (by rfl) N.g_NoGame (pa_cons pe_str pa_nil))) (pa_cons (pe_mk rfl (pmk_oex N.oe_NoText N.ei_NoText.ii N.ei_NoText.ti (w_NoText___init__ N) (hr.mono (by decide)) N.b_NoText___init__ .nil pass0 (by rfl) N.g_NoText (pa_cons (pv 1) pa_nil))) (pa_cons (pe_mk rfl (pmk_oex N.oe_NoSort N.ei_NoSort.ii N.ei_NoSort.ti (w_NoSort___init__ N) (hr.mono (by decide)) N.b_NoSort___init__ .nil pass0 (by rfl) N.g_NoSort (pa_cons (pe_tup (pa_cons (pv 1) pa_nil)) pa_nil))) (pa_cons (pe_mk rfl (pmk_oex N.oe_NoName N.ei_NoName.ii N.ei_NoName.ti (w_NoName___init__ N) (hr.mono (by decide)) N.b_NoName___init__ .nil pass0 (by rfl) N.g_NoName (pa_cons pe_non pa_nil))) (pa_cons (pe_mk rfl (pmk_xc N.x_Unlike N.g_Unlike (by rfl))) (pa_cons (pe_mk rfl (pmk_xc N.x_TooMany N.g_TooMany (by rfl))) pa_nil)))))))))
 (pss_cons (ps_set (i := 2) sc__law_errors_right.nd rfl (.inl rfl) (pe_op (op_addK K) (pv 2) (pe_lst (pa_cons (pe_mk rfl (pmk_xc N.x_NotCertain N.g_NotCertain (by rfl))) (pa_cons (pe_mk rfl (pmk_xc N.x_NoLine N.g_NoLine (by rfl))) pa_nil)))))
 (pss_cons (ps_set (i := 3) sc__law_errors_right.nd rfl (.inl rfl) (pe_lst (pa_cons (pe_xfK (pe_ix (ix_seqK K) (pv 2) pe_int (fun _ _ => rfl))) (pa_cons (pe_xfK (pe_ix (ix_seqK K) (pv 2) pe_int (fun _ _ => rfl))) (pa_cons (pe_xfK (pe_ix (ix_seqK K) (pv 2) pe_int (fun _ _ => rfl))) (pa_cons (pe_xfK (pe_ix (ix_seqK K) (pv 2) pe_int (fun _ _ => rfl))) (pa_cons (pe_xfK (pe_ix (ix_seqK K) (pv 2) pe_int (fun _ _ => rfl))) pa_nil)))))))
 (pss_cons (ps_if (pt_cmpR (op_neK K hr.units) (pe_callB (call_reprEK N.sysd gd (rm66 hr)) (by rfl) N.m_repr (by decide +kernel) (pa_cons (pv 3) pa_nil)) (pe_callB (call_reprEK N.sysd gd (rm66 hr)) (by rfl) N.m_repr (by decide +kernel) (pa_cons (pe_lst (pa_cons pe_str (pa_cons pe_str (pa_cons (pv 1) (pa_cons (pe_tup (pa_cons (pv 1) pa_nil)) (pa_cons pe_non pa_nil)))))) pa_nil)) (nomark _))
 (pss_one (ps_ret pe_bl))
 pss_nil)
 (pss_cons (ps_for PassesOwn.never rfl (pi_enAK K (by rfl) N.m_enumerate (pa_cons (pv 2) pa_nil)) (pg_tup rfl (pgs_cons (pg_name (i := 4) sc__law_errors_right.nd rfl (.inr rfl)) (pgs_cons (pg_name (i := 5) sc__law_errors_right.nd rfl (.inl rfl)) pgs_nil)))
 (pss_cons (ps_set (i := 6) sc__law_errors_right.nd rfl (.inl rfl) (pe_lst (pa_cons (pe_callB (call_isK (K := K)) (by rfl) N.m_isinstance (by decide +kernel) (pa_cons (pv 5) (pa_cons (pe_glob (v := .ref (He.ga K "NoHall")) rfl N.g_NoHall rfl) pa_nil))) (pa_cons (pe_callB (call_isK (K := K)) (by rfl) N.m_isinstance (by decide +kernel) (pa_cons (pv 5) (pa_cons (pe_glob (v := .ref (He.ga K "NoGame")) rfl N.g_NoGame rfl) pa_nil))) (pa_cons (pe_callB (call_isK (K := K)) (by rfl) N.m_isinstance (by decide +kernel) (pa_cons (pv 5) (pa_cons (pe_glob (v := .ref (He.ga K "NoText")) rfl N.g_NoText rfl) pa_nil))) (pa_cons (pe_callB (call_isK (K := K)) (by rfl) N.m_isinstance (by decide +kernel) (pa_cons (pv 5) (pa_cons (pe_glob (v := .ref (He.ga K "NoSort")) rfl N.g_NoSort rfl) pa_nil))) pa_nil))))))
 (pss_cons (ps_set (i := 6) sc__law_errors_right.nd rfl (.inl rfl) (pe_op (op_addK K) (pv 6) (pe_lst (pa_cons (pe_callB (call_isK (K := K)) (by rfl) N.m_isinstance (by decide +kernel) (pa_cons (pv 5) (pa_cons (pe_glob (v := .ref (He.ga K "NoName")) rfl N.g_NoName rfl) pa_nil))) (pa_cons (pe_callB (call_isK (K := K)) (by rfl) N.m_isinstance (by decide +kernel) (pa_cons (pv 5) (pa_cons (pe_glob (v := .ref (He.ga K "Unlike")) rfl N.g_Unlike rfl) pa_nil))) (pa_cons (pe_callB (call_isK (K := K)) (by rfl) N.m_isinstance (by decide +kernel) (pa_cons (pv 5) (pa_cons (pe_glob (v := .ref (He.ga K "TooMany")) rfl N.g_TooMany rfl) pa_nil))) pa_nil))))))
 (pss_cons (ps_set (i := 6) sc__law_errors_right.nd rfl (.inl rfl) (pe_op (op_addK K) (pv 6) (pe_lst (pa_cons (pe_callB (call_isK (K := K)) (by rfl) N.m_isinstance (by decide +kernel) (pa_cons (pv 5) (pa_cons (pe_glob (v := .ref (He.ga K "NotCertain")) rfl N.g_NotCertain rfl) pa_nil))) (pa_cons (pe_callB (call_isK (K := K)) (by rfl) N.m_isinstance (by decide +kernel) (pa_cons (pv 5) (pa_cons (pe_glob (v := .ref (He.ga K "NoLine")) rfl N.g_NoLine rfl) pa_nil))) pa_nil)))))
 (pss_one (ps_if (PW.pt (pw_or (pt_cmpR (op_neK K hr.units) (pv 6) (pe_lc (own := [("_law_k", 7)]) (by rfl) sc__law_errors_right.nd (pi_range1 (by rfl) N.m_range (pa_cons pe_int pa_nil)) (blkOk_by (own := [("_law_k", 7)]) (N := N__law_errors_right) (sc := defScope s__law_errors_right) (by decide +kernel)) (fun _ _ _ _ _ => (pg_name (i := 7) sc__law_errors_right.nd rfl (.inl rfl))) (fun _ _ _ _ _ => pts_nil) (fun _ _ _ _ _ => (pe_cmpR (op_eqK K hr.units) (pv 7) (pv 4) (nomark _)))) (nomark _)) (pw_or (pt_not (pt_val (pe_callB (call_isK (K := K)) (by rfl) N.m_isinstance (by decide +kernel) (pa_cons (pv 5) (pa_cons (pe_glob (v := .ref (He.ga K "HallError")) rfl N.g_HallError rfl) pa_nil))))) (pw_or1 (pt_not (pt_val (pe_callB (call_isK (K := K)) (by rfl) N.m_isinstance (by decide +kernel) (pa_cons (pv 5) (pa_cons (pe_bltn (v := .ty "ValueError") (by rfl) N.m_ValueError (by decide +kernel) rfl) pa_nil)))))))))
 (pss_one (ps_ret pe_bl))
 pss_nil))))))
 (pss_one (ps_ret pe_bl)))))))),
   fun B H0 as0 => ar1 fun hand_here_1 => ⟨_, rfl,
 (blk_set (i := 1) (ev_call (ea_cons (ev_var (i := 0) rfl) (ea_cons (ev_op ok_pow (EvW.r ev_int) (EvW.r ev_int)) ea_nil))) fun row_2 =>
 (blk_set (i := 2) (EvN.ew (en_lst (ea_cons (ev_mkO N.oe_NoHall N.no_NoHall ev_str) (ea_cons (ev_mkO N.oe_NoGame N.no_NoGame ev_str) (ea_cons (ev_mkO N.oe_NoText N.no_NoText (ev_var (i := 1) rfl)) (ea_cons (ev_mkO N.oe_NoSort N.no_NoSort (ev_tup (ea_cons (ev_var (i := 1) rfl) ea_nil))) (ea_cons (ev_mkO N.oe_NoName N.no_NoName ev_non) (ea_cons (ev_mk0 (C := "Unlike") (fun _ _ _ h => h)) (ea_cons (ev_mk0 (C := "TooMany") (fun _ _ _ h => h)) ea_nil))))))))) fun made_3 =>
 (blk_set (i := 2) (ev_op ok_add (EvW.r (ev_var (i := 2) rfl)) (EvW.r (EvN.ew (en_lst (ea_cons (ev_mk0 (C := "NotCertain") (fun _ _ _ h => h)) (ea_cons (ev_mk0 (C := "NoLine") (fun _ _ _ h => h)) ea_nil)))))) fun made_4 =>
 (blk_set (i := 3) (EvN.ew (en_lst (ea_cons (ev_xf (tab := (tabX [("NoHall", true), ("NoGame", true), ("NoText", false), ("NoSort", false), ("NoName", false), ("Unlike", false), ("TooMany", false), ("NotCertain", false), ("NoLine", false)])) (tab_all (P := fun c b => b = true → ExcC _ (He.ga _ c) ∧ PySem.W.findIn _ (.ref (He.ga _ c)) "why" = some none) (allC (fun _ => ⟨N.xi_NoHall, N.no_NoHall⟩) (allC (fun _ => ⟨N.xi_NoGame, N.no_NoGame⟩) (allC (fun z => nomatch z) (allC (fun z => nomatch z) (allC (fun z => nomatch z) (allC (fun z => nomatch z) (allC (fun z => nomatch z) (allC (fun z => nomatch z) (allC (fun z => nomatch z) allN)))))))))) (EvW.r (ev_op ok_ix (EvW.r (ev_var (i := 2) rfl)) (EvW.r ev_int)))) (ea_cons (ev_xf (tab := (tabX [("NoHall", true), ("NoGame", true), ("NoText", false), ("NoSort", false), ("NoName", false), ("Unlike", false), ("TooMany", false), ("NotCertain", false), ("NoLine", false)])) (tab_all (P := fun c b => b = true → ExcC _ (He.ga _ c) ∧ PySem.W.findIn _ (.ref (He.ga _ c)) "why" = some none) (allC (fun _ => ⟨N.xi_NoHall, N.no_NoHall⟩) (allC (fun _ => ⟨N.xi_NoGame, N.no_NoGame⟩) (allC (fun z => nomatch z) (allC (fun z => nomatch z) (allC (fun z => nomatch z) (allC (fun z => nomatch z) (allC (fun z => nomatch z) (allC (fun z => nomatch z) (allC (fun z => nomatch z) allN)))))))))) (EvW.r (ev_op ok_ix (EvW.r (ev_var (i := 2) rfl)) (EvW.r ev_int)))) (ea_cons (ev_xf (tab := (tabX [("NoHall", false), ("NoGame", false), ("NoText", true), ("NoSort", false), ("NoName", false), ("Unlike", false), ("TooMany", false), ("NotCertain", false), ("NoLine", false)])) (tab_all (P := fun c b => b = true → ExcC _ (He.ga _ c) ∧ PySem.W.findIn _ (.ref (He.ga _ c)) "row" = some none) (allC (fun z => nomatch z) (allC (fun z => nomatch z) (allC (fun _ => ⟨N.xi_NoText, N.no_NoText⟩) (allC (fun z => nomatch z) (allC (fun z => nomatch z) (allC (fun z => nomatch z) (allC (fun z => nomatch z) (allC (fun z => nomatch z) (allC (fun z => nomatch z) allN)))))))))) (EvW.r (ev_op ok_ix (EvW.r (ev_var (i := 2) rfl)) (EvW.r ev_int)))) (ea_cons (ev_xf (tab := (tabX [("NoHall", false), ("NoGame", false), ("NoText", false), ("NoSort", true), ("NoName", false), ("Unlike", false), ("TooMany", false), ("NotCertain", false), ("NoLine", false)])) (tab_all (P := fun c b => b = true → ExcC _ (He.ga _ c) ∧ PySem.W.findIn _ (.ref (He.ga _ c)) "asked" = some none) (allC (fun z => nomatch z) (allC (fun z => nomatch z) (allC (fun z => nomatch z) (allC (fun _ => ⟨N.xi_NoSort, N.no_NoSort⟩) (allC (fun z => nomatch z) (allC (fun z => nomatch z) (allC (fun z => nomatch z) (allC (fun z => nomatch z) (allC (fun z => nomatch z) allN)))))))))) (EvW.r (ev_op ok_ix (EvW.r (ev_var (i := 2) rfl)) (EvW.r ev_int)))) (ea_cons (ev_xf (tab := (tabX [("NoHall", false), ("NoGame", false), ("NoText", false), ("NoSort", false), ("NoName", true), ("Unlike", false), ("TooMany", false), ("NotCertain", false), ("NoLine", false)])) (tab_all (P := fun c b => b = true → ExcC _ (He.ga _ c) ∧ PySem.W.findIn _ (.ref (He.ga _ c)) "name" = some none) (allC (fun z => nomatch z) (allC (fun z => nomatch z) (allC (fun z => nomatch z) (allC (fun z => nomatch z) (allC (fun _ => ⟨N.xi_NoName, N.no_NoName⟩) (allC (fun z => nomatch z) (allC (fun z => nomatch z) (allC (fun z => nomatch z) (allC (fun z => nomatch z) allN)))))))))) (EvW.r (ev_op ok_ix (EvW.r (ev_var (i := 2) rfl)) (EvW.r ev_int)))) ea_nil))))))) fun told_5 =>
 (blk_seq (blk_ifL (S := Unit) (fun s_6 => [some (.im hand_here_1), some (.im row_2), some (.im made_4), some (.im told_5), none, none, none, none]) (et_test (EvW.r (ev_op ok_ne (EvW.r (ev_cb1 ok_reprE (EvW.r (ev_var (i := 3) rfl)))) (EvW.r (ev_cb1 ok_reprE (EvW.r (EvN.ew (en_lst (ea_cons ev_str (ea_cons ev_str (ea_cons (ev_var (i := 1) rfl) (ea_cons (ev_tup (ea_cons (ev_var (i := 1) rfl) ea_nil)) (ea_cons ev_non ea_nil)))))))))))))
 (blk_ret (EvW.f ev_bl))
 (blk_fin [] (by rfl))) fun s_6 =>
 (blk_seq (blk_forL (S := Unit) [4, 5, 6] [4, 5] (fun s_7 => [some (.im hand_here_1), some (.im row_2), some (.im made_4), some (.im told_5), none, none, none, none]) (by rfl) (src_enum (ev_var (i := 2) rfl))
 (fun s_7 => pat2 (P := fun δ w => Blk _ _ δ w _ _) (by decide) (by decide) fun at_8 one_9 => (blk_set (i := 6) (EvN.ew (en_lst (ea_cons (ev_isK (tab := (tabX [("NoHall", true), ("NoGame", false), ("NoText", false), ("NoSort", false), ("NoName", false), ("Unlike", false), ("TooMany", false), ("NotCertain", false), ("NoLine", false)])) (c0 := .ref (He.ga K "NoHall")) (cv := .ref (He.ga K "NoHall")) (tab_all (allC ⟨N.xi_NoHall, N.kit_NoHall_NoHall⟩ (allC ⟨N.xi_NoGame, N.kit_NoGame_NoHall⟩ (allC ⟨N.xi_NoText, N.kit_NoText_NoHall⟩ (allC ⟨N.xi_NoSort, N.kit_NoSort_NoHall⟩ (allC ⟨N.xi_NoName, N.kit_NoName_NoHall⟩ (allC ⟨N.xi_Unlike, N.kit_Unlike_NoHall⟩ (allC ⟨N.xi_TooMany, N.kit_TooMany_NoHall⟩ (allC ⟨N.xi_NotCertain, N.kit_NotCertain_NoHall⟩ (allC ⟨N.xi_NoLine, N.kit_NoLine_NoHall⟩ allN)))))))))) clK_ref (EvW.r (ev_var (i := 5) rfl))) (ea_cons (ev_isK (tab := (tabX [("NoHall", false), ("NoGame", true), ("NoText", false), ("NoSort", false), ("NoName", false), ("Unlike", false), ("TooMany", false), ("NotCertain", false), ("NoLine", false)])) (c0 := .ref (He.ga K "NoGame")) (cv := .ref (He.ga K "NoGame")) (tab_all (allC ⟨N.xi_NoHall, N.kit_NoHall_NoGame⟩ (allC ⟨N.xi_NoGame, N.kit_NoGame_NoGame⟩ (allC ⟨N.xi_NoText, N.kit_NoText_NoGame⟩ (allC ⟨N.xi_NoSort, N.kit_NoSort_NoGame⟩ (allC ⟨N.xi_NoName, N.kit_NoName_NoGame⟩ (allC ⟨N.xi_Unlike, N.kit_Unlike_NoGame⟩ (allC ⟨N.xi_TooMany, N.kit_TooMany_NoGame⟩ (allC ⟨N.xi_NotCertain, N.kit_NotCertain_NoGame⟩ (allC ⟨N.xi_NoLine, N.kit_NoLine_NoGame⟩ allN)))))))))) clK_ref (EvW.r (ev_var (i := 5) rfl))) (ea_cons (ev_isK (tab := (tabX [("NoHall", false), ("NoGame", false), ("NoText", true), ("NoSort", false), ("NoName", false), ("Unlike", false), ("TooMany", false), ("NotCertain", false), ("NoLine", false)])) (c0 := .ref (He.ga K "NoText")) (cv := .ref (He.ga K "NoText")) (tab_all (allC ⟨N.xi_NoHall, N.kit_NoHall_NoText⟩ (allC ⟨N.xi_NoGame, N.kit_NoGame_NoText⟩ (allC ⟨N.xi_NoText, N.kit_NoText_NoText⟩ (allC ⟨N.xi_NoSort, N.kit_NoSort_NoText⟩ (allC ⟨N.xi_NoName, N.kit_NoName_NoText⟩ (allC ⟨N.xi_Unlike, N.kit_Unlike_NoText⟩ (allC ⟨N.xi_TooMany, N.kit_TooMany_NoText⟩ (allC ⟨N.xi_NotCertain, N.kit_NotCertain_NoText⟩ (allC ⟨N.xi_NoLine, N.kit_NoLine_NoText⟩ allN)))))))))) clK_ref (EvW.r (ev_var (i := 5) rfl))) (ea_cons (ev_isK (tab := (tabX [("NoHall", false), ("NoGame", false), ("NoText", false), ("NoSort", true), ("NoName", false), ("Unlike", false), ("TooMany", false), ("NotCertain", false), ("NoLine", false)])) (c0 := .ref (He.ga K "NoSort")) (cv := .ref (He.ga K "NoSort")) (tab_all (allC ⟨N.xi_NoHall, N.kit_NoHall_NoSort⟩ (allC ⟨N.xi_NoGame, N.kit_NoGame_NoSort⟩ (allC ⟨N.xi_NoText, N.kit_NoText_NoSort⟩ (allC ⟨N.xi_NoSort, N.kit_NoSort_NoSort⟩ (allC ⟨N.xi_NoName, N.kit_NoName_NoSort⟩ (allC ⟨N.xi_Unlike, N.kit_Unlike_NoSort⟩ (allC ⟨N.xi_TooMany, N.kit_TooMany_NoSort⟩ (allC ⟨N.xi_NotCertain, N.kit_NotCertain_NoSort⟩ (allC ⟨N.xi_NoLine, N.kit_NoLine_NoSort⟩ allN)))))))))) clK_ref (EvW.r (ev_var (i := 5) rfl))) ea_nil)))))) fun marks_10 =>
 (blk_set (i := 6) (ev_op ok_add (EvW.r (ev_var (i := 6) rfl)) (EvW.r (EvN.ew (en_lst (ea_cons (ev_isK (tab := (tabX [("NoHall", false), ("NoGame", false), ("NoText", false), ("NoSort", false), ("NoName", true), ("Unlike", false), ("TooMany", false), ("NotCertain", false), ("NoLine", false)])) (c0 := .ref (He.ga K "NoName")) (cv := .ref (He.ga K "NoName")) (tab_all (allC ⟨N.xi_NoHall, N.kit_NoHall_NoName⟩ (allC ⟨N.xi_NoGame, N.kit_NoGame_NoName⟩ (allC ⟨N.xi_NoText, N.kit_NoText_NoName⟩ (allC ⟨N.xi_NoSort, N.kit_NoSort_NoName⟩ (allC ⟨N.xi_NoName, N.kit_NoName_NoName⟩ (allC ⟨N.xi_Unlike, N.kit_Unlike_NoName⟩ (allC ⟨N.xi_TooMany, N.kit_TooMany_NoName⟩ (allC ⟨N.xi_NotCertain, N.kit_NotCertain_NoName⟩ (allC ⟨N.xi_NoLine, N.kit_NoLine_NoName⟩ allN)))))))))) clK_ref (EvW.r (ev_var (i := 5) rfl))) (ea_cons (ev_isK (tab := (tabX [("NoHall", false), ("NoGame", false), ("NoText", false), ("NoSort", false), ("NoName", false), ("Unlike", true), ("TooMany", false), ("NotCertain", false), ("NoLine", false)])) (c0 := .ref (He.ga K "Unlike")) (cv := .ref (He.ga K "Unlike")) (tab_all (allC ⟨N.xi_NoHall, N.kit_NoHall_Unlike⟩ (allC ⟨N.xi_NoGame, N.kit_NoGame_Unlike⟩ (allC ⟨N.xi_NoText, N.kit_NoText_Unlike⟩ (allC ⟨N.xi_NoSort, N.kit_NoSort_Unlike⟩ (allC ⟨N.xi_NoName, N.kit_NoName_Unlike⟩ (allC ⟨N.xi_Unlike, N.kit_Unlike_Unlike⟩ (allC ⟨N.xi_TooMany, N.kit_TooMany_Unlike⟩ (allC ⟨N.xi_NotCertain, N.kit_NotCertain_Unlike⟩ (allC ⟨N.xi_NoLine, N.kit_NoLine_Unlike⟩ allN)))))))))) clK_ref (EvW.r (ev_var (i := 5) rfl))) (ea_cons (ev_isK (tab := (tabX [("NoHall", false), ("NoGame", false), ("NoText", false), ("NoSort", false), ("NoName", false), ("Unlike", false), ("TooMany", true), ("NotCertain", false), ("NoLine", false)])) (c0 := .ref (He.ga K "TooMany")) (cv := .ref (He.ga K "TooMany")) (tab_all (allC ⟨N.xi_NoHall, N.kit_NoHall_TooMany⟩ (allC ⟨N.xi_NoGame, N.kit_NoGame_TooMany⟩ (allC ⟨N.xi_NoText, N.kit_NoText_TooMany⟩ (allC ⟨N.xi_NoSort, N.kit_NoSort_TooMany⟩ (allC ⟨N.xi_NoName, N.kit_NoName_TooMany⟩ (allC ⟨N.xi_Unlike, N.kit_Unlike_TooMany⟩ (allC ⟨N.xi_TooMany, N.kit_TooMany_TooMany⟩ (allC ⟨N.xi_NotCertain, N.kit_NotCertain_TooMany⟩ (allC ⟨N.xi_NoLine, N.kit_NoLine_TooMany⟩ allN)))))))))) clK_ref (EvW.r (ev_var (i := 5) rfl))) ea_nil))))))) fun marks_11 =>
 (blk_set (i := 6) (ev_op ok_add (EvW.r (ev_var (i := 6) rfl)) (EvW.r (EvN.ew (en_lst (ea_cons (ev_isK (tab := (tabX [("NoHall", false), ("NoGame", false), ("NoText", false), ("NoSort", false), ("NoName", false), ("Unlike", false), ("TooMany", false), ("NotCertain", true), ("NoLine", false)])) (c0 := .ref (He.ga K "NotCertain")) (cv := .ref (He.ga K "NotCertain")) (tab_all (allC ⟨N.xi_NoHall, N.kit_NoHall_NotCertain⟩ (allC ⟨N.xi_NoGame, N.kit_NoGame_NotCertain⟩ (allC ⟨N.xi_NoText, N.kit_NoText_NotCertain⟩ (allC ⟨N.xi_NoSort, N.kit_NoSort_NotCertain⟩ (allC ⟨N.xi_NoName, N.kit_NoName_NotCertain⟩ (allC ⟨N.xi_Unlike, N.kit_Unlike_NotCertain⟩ (allC ⟨N.xi_TooMany, N.kit_TooMany_NotCertain⟩ (allC ⟨N.xi_NotCertain, N.kit_NotCertain_NotCertain⟩ (allC ⟨N.xi_NoLine, N.kit_NoLine_NotCertain⟩ allN)))))))))) clK_ref (EvW.r (ev_var (i := 5) rfl))) (ea_cons (ev_isK (tab := (tabX [("NoHall", false), ("NoGame", false), ("NoText", false), ("NoSort", false), ("NoName", false), ("Unlike", false), ("TooMany", false), ("NotCertain", false), ("NoLine", true)])) (c0 := .ref (He.ga K "NoLine")) (cv := .ref (He.ga K "NoLine")) (tab_all (allC ⟨N.xi_NoHall, N.kit_NoHall_NoLine⟩ (allC ⟨N.xi_NoGame, N.kit_NoGame_NoLine⟩ (allC ⟨N.xi_NoText, N.kit_NoText_NoLine⟩ (allC ⟨N.xi_NoSort, N.kit_NoSort_NoLine⟩ (allC ⟨N.xi_NoName, N.kit_NoName_NoLine⟩ (allC ⟨N.xi_Unlike, N.kit_Unlike_NoLine⟩ (allC ⟨N.xi_TooMany, N.kit_TooMany_NoLine⟩ (allC ⟨N.xi_NotCertain, N.kit_NotCertain_NoLine⟩ (allC ⟨N.xi_NoLine, N.kit_NoLine_NoLine⟩ allN)))))))))) clK_ref (EvW.r (ev_var (i := 5) rfl))) ea_nil)))))) fun marks_12 =>
 (blk_if (et_or (et_test (EvW.r (ev_op ok_ne (EvW.r (ev_var (i := 6) rfl)) (EvW.r (EvN.ew (en_lc (by rfl) (src_range1 (EvW.r ev_int)) fun k_13 st r q => ⟨_, tg_name (by decide), et_yes, (ev_op ok_eq (EvW.r (ev_var (i := 7) rfl)) (EvW.r (ev_var (i := 4) rfl)))⟩)))))) (et_or (et_not (et_B (EvW.r (ev_isK (tab := (tabX [("NoHall", true), ("NoGame", true), ("NoText", true), ("NoSort", true), ("NoName", true), ("Unlike", true), ("TooMany", true), ("NotCertain", true), ("NoLine", true)])) (c0 := .ref (He.ga K "HallError")) (cv := .ref (He.ga K "HallError")) (tab_all (allC ⟨N.xi_NoHall, N.kit_NoHall_HallError⟩ (allC ⟨N.xi_NoGame, N.kit_NoGame_HallError⟩ (allC ⟨N.xi_NoText, N.kit_NoText_HallError⟩ (allC ⟨N.xi_NoSort, N.kit_NoSort_HallError⟩ (allC ⟨N.xi_NoName, N.kit_NoName_HallError⟩ (allC ⟨N.xi_Unlike, N.kit_Unlike_HallError⟩ (allC ⟨N.xi_TooMany, N.kit_TooMany_HallError⟩ (allC ⟨N.xi_NotCertain, N.kit_NotCertain_HallError⟩ (allC ⟨N.xi_NoLine, N.kit_NoLine_HallError⟩ allN)))))))))) clK_ref (EvW.r (ev_var (i := 5) rfl)))))) (et_not (et_B (EvW.r (ev_isK (tab := (tabX [("NoHall", true), ("NoGame", true), ("NoText", true), ("NoSort", true), ("NoName", true), ("Unlike", true), ("TooMany", true), ("NotCertain", true), ("NoLine", true)])) (c0 := .ty "ValueError") (cv := .type "ValueError") (tab_all (allC ⟨N.xi_NoHall, N.kit_NoHall_ValueError⟩ (allC ⟨N.xi_NoGame, N.kit_NoGame_ValueError⟩ (allC ⟨N.xi_NoText, N.kit_NoText_ValueError⟩ (allC ⟨N.xi_NoSort, N.kit_NoSort_ValueError⟩ (allC ⟨N.xi_NoName, N.kit_NoName_ValueError⟩ (allC ⟨N.xi_Unlike, N.kit_Unlike_ValueError⟩ (allC ⟨N.xi_TooMany, N.kit_TooMany_ValueError⟩ (allC ⟨N.xi_NotCertain, N.kit_NotCertain_ValueError⟩ (allC ⟨N.xi_NoLine, N.kit_NoLine_ValueError⟩ allN)))))))))) clK_ty (EvW.r (ev_var (i := 5) rfl))))))))
 (blk_ret (EvW.f ev_bl))
 (blk_fin [4, 5, 6] (by rfl)))))))) fun s_7 =>
 (blk_ret (EvW.f ev_bl))))))))⟩⟩
noncomputable def m__law_of (hand_here_1 some_2 : U) : M U := fnM (rtO (op2 ixU (.ret some_2) (callM (L2' m__law_pick) (consA (.ret hand_here_1) (consA (op1 lenU (.ret some_2)) nilA)))))
theorem w__law_of {P : Program} {w : World} {K : PySem.W.Frag} {mg : Str → Option Value} {bs : Heap} (N : En w K mg) : FnOk P w K mg bs CX0 2 (He.ga K "_law_of") N.fd__law_of ["_law_hand_here", "_law_some"] (spM ⟨K, He.ga K⟩ (L2' m__law_of)) :=
  fn_okF N.F__law_of sc__law_of (ar2 fun _ _ => rfl) fun cv A o s H E hr => ⟨_, PSs.nox (pss_one (ps_ret (pe_ix (ix_seqK K) (pv 1) (pe_call (w__law_pick N) (hr.mono (by decide)) (by rfl) N.g__law_pick N.F__law_pick.kp N.b__law_pick .nil pass0 (pa_cons (pv 0) (pa_cons (pe_callB (call_lenK K) (by rfl) N.m_len PySem.boot_len (pa_cons (pv 1) pa_nil)) pa_nil))) (fun _ _ => rfl)))),
   fun B H0 as0 => ar2 fun hand_here_1 some_2 => ⟨_, rfl,
 (blk_ret (EvW.f (ev_op ok_ix (EvW.r (ev_var (i := 1) rfl)) (EvW.r (ev_call (ea_cons (ev_var (i := 0) rfl) (ea_cons (ev_cb1 ok_len (EvW.r (ev_var (i := 1) rfl))) ea_nil)))))))⟩⟩
noncomputable def m__law_rooms (hand_here_1 many_2 : U) : M U := fnM (rtO (op1 tupleU (lcW (rng1W (.ret many_2)) (fun room_3 => (testW (op2 eqU (callM (L2' m__law_pick) (consA (.ret hand_here_1) (consA (.ret (.int 2)) nilA))) (.ret (.int 0))))) fun room_3 => (.ret room_3))))
theorem w__law_rooms {P : Program} {w : World} {K : PySem.W.Frag} {mg : Str → Option Value} {bs : Heap} (N : En w K mg) : FnOk P w K mg bs CX0 2 (He.ga K "_law_rooms") N.fd__law_rooms ["_law_hand_here", "_law_many"] (spM ⟨K, He.ga K⟩ (L2' m__law_rooms)) :=
  fn_okF N.F__law_rooms sc__law_rooms (ar2 fun _ _ => rfl) fun cv A o s H E hr => ⟨_, PSs.nox (pss_one (ps_ret (pe_callTy (call_tupleK K) (by rfl) N.m_tuple (by decide +kernel) (pa_cons (pe_lc (own := [("_law_room", 2)]) (by rfl) sc__law_rooms.nd (pi_range1 (by rfl) N.m_range (pa_cons (pv 1) pa_nil)) (blkOk_by (own := [("_law_room", 2)]) (N := N__law_rooms) (sc := defScope s__law_rooms) (by decide +kernel)) (fun _ _ _ _ _ => (pg_name (i := 2) sc__law_rooms.nd rfl (.inl rfl))) (fun _ _ _ _ _ => (pts_one (pt_cmpR (op_eqK K hr.units) (pe_call (w__law_pick N) (hr.mono (by decide)) (by rfl) N.g__law_pick N.F__law_pick.kp N.b__law_pick .nil pass0 (pa_cons (pv 0) (pa_cons pe_int pa_nil))) pe_int (nomark _)))) (fun _ _ _ _ _ => (pv 2))) pa_nil)))),
   fun B H0 as0 => ar2 fun hand_here_1 many_2 => ⟨_, rfl,
 (blk_ret (EvW.f (ev_cb1 ok_tuple (EvW.r (EvN.ew (en_lc (by rfl) (src_range1 (EvW.r (ev_var (i := 1) rfl))) fun room_3 st r q => ⟨_, tg_name (by decide), (et_test (EvW.r (ev_op ok_eq (EvW.r (ev_call (ea_cons (ev_var (i := 0) rfl) (ea_cons ev_int ea_nil)))) (EvW.r ev_int)))), (ev_var (i := 2) rfl)⟩))))))⟩⟩
noncomputable def m__law_by (hand_here_1 kind_2 many_3 : U) : M U := fnM (seqO (S := Unit) (iteW (testW (op2 eqU (.ret kind_2) (.ret (.str "pairs")))) (rtO (op1 tupleU (lcW (rng1W (callM (L2' m__law_pick) (consA (.ret hand_here_1) (consA (.ret (.int 4)) nilA)))) (fun k_5 => (.ret true)) fun k_5 => (tupW (consA (callM (L2' m__law_rooms) (consA (.ret hand_here_1) (consA (.ret many_3) nilA))) (consA (callM (L2' m__law_rooms) (consA (.ret hand_here_1) (consA (.ret many_3) nilA))) nilA)))))) (nxO ())) fun s_4 => (seqO (S := Unit) (iteW (testW (op2 eqU (.ret kind_2) (.ret (.str "ranks")))) (rtO (op1 tupleU (lcW (rng1W (.ret many_3)) (fun room_8 => (.ret true)) fun room_8 => (callM (L2' m__law_pick) (consA (.ret hand_here_1) (consA (.ret (.int 6)) nilA)))))) (nxO ())) fun s_7 => (rtO (callM (L2' m__law_rooms) (consA (.ret hand_here_1) (consA (.ret many_3) nilA))))))
theorem w__law_by {P : Program} {w : World} {K : PySem.W.Frag} {mg : Str → Option Value} {bs : Heap} (N : En w K mg) : FnOk P w K mg bs CX0 3 (He.ga K "_law_by") N.fd__law_by ["_law_hand_here", "_law_kind", "_law_many"] (spM ⟨K, He.ga K⟩ (L3 m__law_by)) :=
  fn_okF N.F__law_by sc__law_by (ar3 fun _ _ _ => rfl) fun cv A o s H E hr => ⟨_, PSs.nox (pss_cons (ps_if (pt_cmpR (op_eqK K hr.units) (pv 1) pe_str (nomark _))
 (pss_one (ps_ret (pe_callTy (call_tupleK K) (by rfl) N.m_tuple (by decide +kernel) (pa_cons (pe_lc (own := [("_law_k", 3)]) (by rfl) sc__law_by.nd (pi_range1 (by rfl) N.m_range (pa_cons (pe_call (w__law_pick N) (hr.mono (by decide)) (by rfl) N.g__law_pick N.F__law_pick.kp N.b__law_pick .nil pass0 (pa_cons (pv 0) (pa_cons pe_int pa_nil))) pa_nil)) (blkOk_by (own := [("_law_k", 3)]) (N := N__law_by) (sc := defScope s__law_by) (by decide +kernel)) (fun _ _ _ _ _ => (pg_name (i := 3) sc__law_by.nd rfl (.inl rfl))) (fun _ _ _ _ _ => pts_nil) (fun _ _ _ _ _ => (pe_tup (pa_cons (pe_call (w__law_rooms N) (hr.mono (by decide)) (by rfl) N.g__law_rooms N.F__law_rooms.kp N.b__law_rooms .nil pass0 (pa_cons (pv 0) (pa_cons (pv 2) pa_nil))) (pa_cons (pe_call (w__law_rooms N) (hr.mono (by decide)) (by rfl) N.g__law_rooms N.F__law_rooms.kp N.b__law_rooms .nil pass0 (pa_cons (pv 0) (pa_cons (pv 2) pa_nil))) pa_nil))))) pa_nil))))
 pss_nil)
 (pss_cons (ps_if (pt_cmpR (op_eqK K hr.units) (pv 1) pe_str (nomark _))
 (pss_one (ps_ret (pe_callTy (call_tupleK K) (by rfl) N.m_tuple (by decide +kernel) (pa_cons (pe_lc (own := [("_law_room", 4)]) (by rfl) sc__law_by.nd (pi_range1 (by rfl) N.m_range (pa_cons (pv 2) pa_nil)) (blkOk_by (own := [("_law_room", 4)]) (N := N__law_by) (sc := defScope s__law_by) (by decide +kernel)) (fun _ _ _ _ _ => (pg_name (i := 4) sc__law_by.nd rfl (.inl rfl))) (fun _ _ _ _ _ => pts_nil) (fun _ _ _ _ _ => (pe_call (w__law_pick N) (hr.mono (by decide)) (by rfl) N.g__law_pick N.F__law_pick.kp N.b__law_pick .nil pass0 (pa_cons (pv 0) (pa_cons pe_int pa_nil))))) pa_nil))))
 pss_nil)
 (pss_one (ps_ret (pe_call (w__law_rooms N) (hr.mono (by decide)) (by rfl) N.g__law_rooms N.F__law_rooms.kp N.b__law_rooms .nil pass0 (pa_cons (pv 0) (pa_cons (pv 2) pa_nil))))))),
   fun B H0 as0 => ar3 fun hand_here_1 kind_2 many_3 => ⟨_, rfl,
 (blk_seq (blk_ifL (S := Unit) (fun s_4 => [some (.im hand_here_1), some (.im kind_2), some (.im many_3), none, none]) (et_test (EvW.r (ev_op ok_eq (EvW.r (ev_var (i := 1) rfl)) (EvW.r ev_str))))
 (blk_ret (EvW.f (ev_cb1 ok_tuple (EvW.r (EvN.ew (en_lc (by rfl) (src_range1 (EvW.r (ev_call (ea_cons (ev_var (i := 0) rfl) (ea_cons ev_int ea_nil))))) fun k_5 st r q => ⟨_, tg_name (by decide), et_yes, (ev_tup (ea_cons (ev_call (ea_cons (ev_var (i := 0) rfl) (ea_cons (ev_var (i := 2) rfl) ea_nil))) (ea_cons (ev_call (ea_cons (ev_var (i := 0) rfl) (ea_cons (ev_var (i := 2) rfl) ea_nil))) ea_nil)))⟩))))))
 (blk_fin [] (by rfl))) fun s_4 =>
 (blk_seq (blk_ifL (S := Unit) (fun s_7 => [some (.im hand_here_1), some (.im kind_2), some (.im many_3), none, none]) (et_test (EvW.r (ev_op ok_eq (EvW.r (ev_var (i := 1) rfl)) (EvW.r ev_str))))
 (blk_ret (EvW.f (ev_cb1 ok_tuple (EvW.r (EvN.ew (en_lc (by rfl) (src_range1 (EvW.r (ev_var (i := 2) rfl))) fun room_8 st r q => ⟨_, tg_name (by decide), et_yes, (ev_call (ea_cons (ev_var (i := 0) rfl) (ea_cons ev_int ea_nil)))⟩))))))
 (blk_fin [] (by rfl))) fun s_7 =>
 (blk_ret (EvW.f (ev_call (ea_cons (ev_var (i := 0) rfl) (ea_cons (ev_var (i := 2) rfl) ea_nil)))))))⟩⟩
noncomputable def m__law_hall (hand_here_1 letters_2 upmost_3 : U) : M U := fnM (.bind (op2 addU (.ret (.int 1)) (callM (L2' m__law_pick) (consA (.ret hand_here_1) (consA (.ret upmost_3) nilA)))) fun rooms_here_4 => (.bind (callM (L2' m__law_of) (consA (.ret hand_here_1) (consA (lstW (consA (.ret (.str "again")) (consA (.ret (.str "at last")) (consA (.ret (.str "pairs")) (consA (.ret (.str "ranks")) nilA))))) nilA))) fun kind_5 => (.bind (op2 addU (.ret (.int 2)) (callM (L2' m__law_pick) (consA (.ret hand_here_1) (consA (.ret (.int 4)) nilA)))) fun chance_6 => (.bind (callM (L2' m__law_pick) (consA (.ret hand_here_1) (consA (.ret (.int 3)) nilA))) fun full_7 => (.bind (lstW nilA) fun ways_here_8 => (seqO (S := U) (.bind (rng1W (.ret rooms_here_4)) fun us => forO (fun room_10 s_9 => (seqO (S := U) (.bind (rng1W (.ret letters_2)) fun us => forO (fun letter_12 s_11 => (.bind (lcW (rng1W (.ret rooms_here_4)) (fun end_16 => (testW (op2 eqU (callM (L2' m__law_pick) (consA (.ret hand_here_1) (consA (.ret chance_6) nilA))) (.ret (.int 0))))) fun end_16 => (.ret end_16)) fun ends_15 => (seqO (S := U) (iteW (orT (testW (op2 eqU (.ret full_7) (.ret (.int 2)))) (andT (testW (op2 eqU (.ret full_7) (.ret (.int 1)))) (testW (op2 eqU (.ret ends_15) (lstW nilA))))) (.bind (lstW (consA (callM (L2' m__law_pick) (consA (.ret hand_here_1) (consA (.ret rooms_here_4) nilA))) nilA)) fun ends_19 => (nxO ends_19)) (nxO ends_15)) fun s_18 => (.bind (op2 addU (.ret s_11) (lcW (itW (.ret s_18)) (fun end_23 => (.ret true)) fun end_23 => (tupW (consA (.ret room_10) (consA (.ret letter_12) (consA (.ret end_23) nilA)))))) fun ways_here_22 => (nxO ways_here_22))))) us s_9) fun s_11 => (nxO s_11))) us ways_here_8) fun s_9 => (rtO (tupW (consA (.ret letters_2) (consA (.ret rooms_here_4) (consA (callM (L2' m__law_pick) (consA (.ret hand_here_1) (consA (.ret rooms_here_4) nilA))) (consA (op1 tupleU (.ret s_9)) (consA (.ret kind_5) (consA (callM (L3 m__law_by) (consA (.ret hand_here_1) (consA (.ret kind_5) (consA (.ret rooms_here_4) nilA)))) nilA))))))))))))))
theorem w__law_hall {P : Program} {w : World} {K : PySem.W.Frag} {mg : Str → Option Value} {bs : Heap} (N : En w K mg) : FnOk P w K mg bs CX0 4 (He.ga K "_law_hall") N.fd__law_hall ["_law_hand_here", "_law_letters", "_law_upmost"] (spM ⟨K, He.ga K⟩ (L3 m__law_hall)) :=
  fn_okF N.F__law_hall sc__law_hall (ar3 fun _ _ _ => rfl) fun cv A o s H E hr => ⟨_, PSs.nox (pss_cons (ps_par (i := 3) (j := 4) (by rfl) sc__law_hall.nd rfl rfl (by decide) rfl rfl (pa_cons (pe_op (op_addK K) pe_int (pe_call (w__law_pick N) (hr.mono (by decide)) (by rfl) N.g__law_pick N.F__law_pick.kp N.b__law_pick .nil pass0 (pa_cons (pv 0) (pa_cons (pv 2) pa_nil)))) (pa_cons (pe_call (w__law_of N) (hr.mono (by decide)) (by rfl) N.g__law_of N.F__law_of.kp N.b__law_of .nil pass0 (pa_cons (pv 0) (pa_cons (pe_lst (pa_cons pe_str (pa_cons pe_str (pa_cons pe_str (pa_cons pe_str pa_nil))))) pa_nil))) pa_nil)) (by rfl))
 (pss_cons (ps_asg (pe_tup (pa_cons (pe_op (op_addK K) pe_int (pe_call (w__law_pick N) (hr.mono (by decide)) (by rfl) N.g__law_pick N.F__law_pick.kp N.b__law_pick .nil pass0 (pa_cons (pv 0) (pa_cons pe_int pa_nil)))) (pa_cons (pe_call (w__law_pick N) (hr.mono (by decide)) (by rfl) N.g__law_pick N.F__law_pick.kp N.b__law_pick .nil pass0 (pa_cons (pv 0) (pa_cons pe_int pa_nil))) (pa_cons (pe_lst pa_nil) pa_nil)))) (pg_tup rfl (pgs_cons (pg_name (i := 5) sc__law_hall.nd rfl (.inr rfl)) (pgs_cons (pg_name (i := 6) sc__law_hall.nd rfl (.inl rfl)) (pgs_cons (pg_name (i := 7) sc__law_hall.nd rfl (.inl rfl)) pgs_nil)))))
 (pss_cons (ps_for PassesOwn.never rfl (pi_range1 (by rfl) N.m_range (pa_cons (pv 3) pa_nil)) (pg_name (i := 8) sc__law_hall.nd rfl (.inr rfl))
 (pss_one (ps_for PassesOwn.never rfl (pi_range1 (by rfl) N.m_range (pa_cons (pv 1) pa_nil)) (pg_name (i := 9) sc__law_hall.nd rfl (.inr rfl))
 (pss_cons (ps_setLc (i := 10) (own := [("_law_end", 11)]) (by rfl) sc__law_hall.nd rfl rfl (sw_true rfl rfl rfl (by decide +kernel)) (pi_range1 (by rfl) N.m_range (pa_cons (pv 3) pa_nil)) (blkOk_by (own := [("_law_end", 11)]) (N := N__law_hall) (sc := defScope s__law_hall) (by decide +kernel)) (fun _ _ _ _ _ => (pg_name (i := 11) sc__law_hall.nd rfl (.inl rfl))) (fun _ _ _ _ _ => (pts_one (pt_cmpR (op_eqK K hr.units) (pe_call (w__law_pick N) (hr.mono (by decide)) (by rfl) N.g__law_pick N.F__law_pick.kp N.b__law_pick .nil pass0 (pa_cons (pv 0) (pa_cons (pv 5) pa_nil))) pe_int (nomark _)))) (fun _ _ _ _ _ => (pv 11)))
 (pss_cons (ps_if (PW.pt (pw_or (pt_cmpR (op_eqK K hr.units) (pv 6) pe_int (nomark _)) (pw_or1 (PW.pt (pw_and (pt_cmpR (op_eqK K hr.units) (pv 6) pe_int (nomark _)) (pw_and1 (pt_cmpR (op_eqK K hr.units) (pv 10) (pe_lst pa_nil) (nomark _))))))))
 (pss_one (ps_set (i := 10) sc__law_hall.nd rfl (.inl rfl) (pe_lst (pa_cons (pe_call (w__law_pick N) (hr.mono (by decide)) (by rfl) N.g__law_pick N.F__law_pick.kp N.b__law_pick .nil pass0 (pa_cons (pv 0) (pa_cons (pv 3) pa_nil))) pa_nil))))
 pss_nil)
 (pss_one (ps_set (i := 7) sc__law_hall.nd rfl (.inl rfl) (pe_op (op_addK K) (pv 7) (pe_lc (own := [("_law_end", 11)]) (by rfl) sc__law_hall.nd (pi_seqK K (pv 10)) (blkOk_by (own := [("_law_end", 11)]) (N := N__law_hall) (sc := defScope s__law_hall) (by decide +kernel)) (fun _ _ _ _ _ => (pg_name (i := 11) sc__law_hall.nd rfl (.inl rfl))) (fun _ _ _ _ _ => pts_nil) (fun _ _ _ _ _ => (pe_tup (pa_cons (pv 8) (pa_cons (pv 9) (pa_cons (pv 11) pa_nil))))))))))))))
 (pss_one (ps_ret (pe_tup (pa_cons (pv 1) (pa_cons (pv 3) (pa_cons (pe_call (w__law_pick N) (hr.mono (by decide)) (by rfl) N.g__law_pick N.F__law_pick.kp N.b__law_pick .nil pass0 (pa_cons (pv 0) (pa_cons (pv 3) pa_nil))) (pa_cons (pe_callTy (call_tupleK K) (by rfl) N.m_tuple (by decide +kernel) (pa_cons (pv 7) pa_nil)) (pa_cons (pv 4) (pa_cons (pe_call (w__law_by N) (hr.mono (by decide)) (by rfl) N.g__law_by N.F__law_by.kp N.b__law_by .nil pass0 (pa_cons (pv 0) (pa_cons (pv 4) (pa_cons (pv 3) pa_nil)))) pa_nil)))))))))))),
   fun B H0 as0 => ar3 fun hand_here_1 letters_2 upmost_3 => ⟨_, rfl,
 (blk_par2 (i0 := 3) (i1 := 4) (ev_op ok_add (EvW.r ev_int) (EvW.r (ev_call (ea_cons (ev_var (i := 0) rfl) (ea_cons (ev_var (i := 2) rfl) ea_nil))))) (ev_call (ea_cons (ev_var (i := 0) rfl) (ea_cons (EvN.ew (en_lst (ea_cons ev_str (ea_cons ev_str (ea_cons ev_str (ea_cons ev_str ea_nil)))))) ea_nil))) fun rooms_here_4 kind_5 =>
 (blk_tup_WWW (i0 := 5) (i1 := 6) (i2 := 7) (ev_op ok_add (EvW.r ev_int) (EvW.r (ev_call (ea_cons (ev_var (i := 0) rfl) (ea_cons ev_int ea_nil))))) (ev_call (ea_cons (ev_var (i := 0) rfl) (ea_cons ev_int ea_nil))) (EvN.ew (en_lst ea_nil)) fun chance_6 full_7 ways_here_8 =>
 (blk_seq (blk_forL (S := U) [8, 9, 10] [8] (fun s_9 => [some (.im hand_here_1), some (.im letters_2), some (.im upmost_3), some (.im rooms_here_4), some (.im kind_5), some (.im chance_6), some (.im full_7), some (.im s_9), none, none, none, none]) (by rfl) (src_range1 (EvW.r (ev_var (i := 3) rfl)))
 (fun s_9 room_10 st r q => ⟨_, tg_name (by decide), (blk_last (blk_seq (blk_forL (S := U) [9, 10] [9] (fun s_11 => [some (.im hand_here_1), some (.im letters_2), some (.im upmost_3), some (.im rooms_here_4), some (.im kind_5), some (.im chance_6), some (.im full_7), some (.im s_11), some (.im room_10), none, none, none]) (by rfl) (src_range1 (EvW.r (ev_var (i := 1) rfl)))
 (fun s_11 letter_12 st r q => ⟨_, tg_name (by decide), (blk_set (i := 10) (EvN.ew (en_lc (by rfl) (src_range1 (EvW.r (ev_var (i := 3) rfl))) fun end_16 st r q => ⟨_, tg_name (by decide), (et_test (EvW.r (ev_op ok_eq (EvW.r (ev_call (ea_cons (ev_var (i := 0) rfl) (ea_cons (ev_var (i := 5) rfl) ea_nil)))) (EvW.r ev_int)))), (ev_var (i := 11) rfl)⟩)) fun ends_15 =>
 (blk_seq (blk_ifL (S := U) (fun s_18 => [some (.im hand_here_1), some (.im letters_2), some (.im upmost_3), some (.im rooms_here_4), some (.im kind_5), some (.im chance_6), some (.im full_7), some (.im s_11), some (.im room_10), some (.im letter_12), some (.im s_18), none]) (et_or (et_test (EvW.r (ev_op ok_eq (EvW.r (ev_var (i := 6) rfl)) (EvW.r ev_int)))) (et_and (et_test (EvW.r (ev_op ok_eq (EvW.r (ev_var (i := 6) rfl)) (EvW.r ev_int)))) (et_test (EvW.r (ev_op ok_eq (EvW.r (ev_var (i := 10) rfl)) (EvW.r (EvN.ew (en_lst ea_nil))))))))
 (blk_last (blk_set (i := 10) (EvN.ew (en_lst (ea_cons (ev_call (ea_cons (ev_var (i := 0) rfl) (ea_cons (ev_var (i := 3) rfl) ea_nil))) ea_nil))) fun ends_19 =>
 (blk_fin [] (by rfl))))
 (blk_fin [] (by rfl))) fun s_18 =>
 (blk_last (blk_set (i := 7) (ev_op ok_add (EvW.r (ev_var (i := 7) rfl)) (EvW.r (EvN.ew (en_lc (by rfl) (src_it (ev_var (i := 10) rfl)) fun end_23 st r q => ⟨_, tg_name (by decide), et_yes, (ev_tup (ea_cons (ev_var (i := 8) rfl) (ea_cons (ev_var (i := 9) rfl) (ea_cons (ev_var (i := 11) rfl) ea_nil))))⟩)))) fun ways_here_22 =>
 (blk_fin [9, 10] (by rfl))))))⟩)) fun s_11 =>
 (blk_fin [8, 9, 10] (by rfl))))⟩)) fun s_9 =>
 (blk_ret (ef_tup (eaf_cons (EvW.f (ev_var (i := 1) rfl)) (eaf_cons (EvW.f (ev_var (i := 3) rfl)) (eaf_cons (EvW.f (ev_call (ea_cons (ev_var (i := 0) rfl) (ea_cons (ev_var (i := 3) rfl) ea_nil)))) (eaf_cons (EvW.f (ev_cb1 ok_tuple (EvW.r (ev_var (i := 7) rfl)))) (eaf_cons (EvW.f (ev_var (i := 4) rfl)) (eaf_cons (EvW.f (ev_call (ea_cons (ev_var (i := 0) rfl) (ea_cons (ev_var (i := 4) rfl) (ea_cons (ev_var (i := 3) rfl) ea_nil))))) eaf_nil)))))))))))⟩⟩
noncomputable def m__law_by_bent (hand_here_1 kind_2 rooms_here_3 by_here_4 : U) : M U := fnM (.bind (callM (L2' m__law_pick) (consA (.ret hand_here_1) (consA (.ret (.int 7)) nilA))) fun way_5 => (seqO (S := Unit) (iteW (testW (op2 eqU (.ret way_5) (.ret (.int 0)))) (rtO (op2 addU (.ret by_here_4) (tupW (consA (.ret rooms_here_3) nilA)))) (nxO ())) fun s_6 => (seqO (S := Unit) (iteW (testW (op2 eqU (.ret way_5) (.ret (.int 1)))) (rtO (iteW (testW (op2 neU (.ret by_here_4) (tupW nilA))) (op2 addU (.ret by_here_4) (slW (.ret by_here_4) (someP (op1 negU (.ret (.int 1)))) noP)) (tupW (consA (.ret rooms_here_3) nilA)))) (nxO ())) fun s_7 => (seqO (S := Unit) (iteW (testW (op2 eqU (.ret way_5) (.ret (.int 2)))) (rtO (slW (.ret by_here_4) noP (someP (op1 negU (.ret (.int 1)))))) (nxO ())) fun s_8 => (seqO (S := Unit) (iteW (testW (op2 eqU (.ret way_5) (.ret (.int 3)))) (rtO (op1 revTU (.ret by_here_4))) (nxO ())) fun s_9 => (seqO (S := Unit) (iteW (testW (op2 eqU (.ret way_5) (.ret (.int 4)))) (rtO (op2 addU (.ret by_here_4) (tupW (consA (tupW (consA (tupW nilA) (consA (tupW (consA (.ret rooms_here_3) nilA)) nilA))) nilA)))) (nxO ())) fun s_10 => (seqO (S := Unit) (iteW (testW (op2 eqU (.ret way_5) (.ret (.int 5)))) (rtO (op2 addU (tupW (consA (op1 negU (.ret (.int 1))) nilA)) (slW (.ret by_here_4) (someP (.ret (.int 1))) noP))) (nxO ())) fun s_11 => (rtO (op1 listU (.ret by_here_4))))))))))
theorem w__law_by_bent {P : Program} {w : World} {K : PySem.W.Frag} {mg : Str → Option Value} {bs : Heap} (N : En w K mg) : FnOk P w K mg bs CX0 2 (He.ga K "_law_by_bent") N.fd__law_by_bent ["_law_hand_here", "_law_kind", "_law_rooms_here", "_law_by_here"] (spM ⟨K, He.ga K⟩ (L4 m__law_by_bent)) :=
  fn_okF N.F__law_by_bent sc__law_by_bent (ar4 fun _ _ _ _ => rfl) fun cv A o s H E hr => ⟨_, PSs.nox (pss_cons (ps_set (i := 4) sc__law_by_bent.nd rfl (.inl rfl) (pe_call (w__law_pick N) (hr.mono (by decide)) (by rfl) N.g__law_pick N.F__law_pick.kp N.b__law_pick .nil pass0 (pa_cons (pv 0) (pa_cons pe_int pa_nil))))
 (pss_cons (ps_if (pt_cmpR (op_eqK K hr.units) (pv 4) pe_int (nomark _))
 (pss_one (ps_ret (pe_op (op_addK K) (pv 3) (pe_tup (pa_cons (pv 2) pa_nil)))))
 pss_nil)
 (pss_cons (ps_if (pt_cmpR (op_eqK K hr.units) (pv 4) pe_int (nomark _))
 (pss_one (ps_ret (pe_ifExp (pt_cmpR (op_neK K hr.units) (pv 3) (pe_tup pa_nil) (nomark _)) (pe_op (op_addK K) (pv 3) (pe_slice (sl_seqK K) (pv 3) (po_some (pe_un un_neg pe_int)) po_none)) (pe_tup (pa_cons (pv 2) pa_nil)))))
 pss_nil)
 (pss_cons (ps_if (pt_cmpR (op_eqK K hr.units) (pv 4) pe_int (nomark _))
 (pss_one (ps_ret (pe_slice (sl_seqK K) (pv 3) po_none (po_some (pe_un un_neg pe_int)))))
 pss_nil)
 (pss_cons (ps_if (pt_cmpR (op_eqK K hr.units) (pv 4) pe_int (nomark _))
 (pss_one (ps_ret (pe_revT K (pv 3))))
 pss_nil)
 (pss_cons (ps_if (pt_cmpR (op_eqK K hr.units) (pv 4) pe_int (nomark _))
 (pss_one (ps_ret (pe_op (op_addK K) (pv 3) (pe_tup (pa_cons (pe_tup (pa_cons (pe_tup pa_nil) (pa_cons (pe_tup (pa_cons (pv 2) pa_nil)) pa_nil))) pa_nil)))))
 pss_nil)
 (pss_cons (ps_if (pt_cmpR (op_eqK K hr.units) (pv 4) pe_int (nomark _))
 (pss_one (ps_ret (pe_op (op_addK K) (pe_tup (pa_cons (pe_un un_neg pe_int) pa_nil)) (pe_slice (sl_seqK K) (pv 3) (po_some pe_int) po_none))))
 pss_nil)
 (pss_one (ps_ret (pe_callTy (call_listK K) (by rfl) N.m_list (by decide +kernel) (pa_cons (pv 3) pa_nil))))))))))),
   fun B H0 as0 => ar4 fun hand_here_1 kind_2 rooms_here_3 by_here_4 => ⟨_, rfl,
 (blk_set (i := 4) (ev_call (ea_cons (ev_var (i := 0) rfl) (ea_cons ev_int ea_nil))) fun way_5 =>
 (blk_seq (blk_ifL (S := Unit) (fun s_6 => [some (.im hand_here_1), some (.im kind_2), some (.im rooms_here_3), some (.im by_here_4), some (.im way_5)]) (et_test (EvW.r (ev_op ok_eq (EvW.r (ev_var (i := 4) rfl)) (EvW.r ev_int))))
 (blk_ret (EvW.f (ev_op ok_add (EvW.r (ev_var (i := 3) rfl)) (EvW.r (ev_tup (ea_cons (ev_var (i := 2) rfl) ea_nil))))))
 (blk_fin [] (by rfl))) fun s_6 =>
 (blk_seq (blk_ifL (S := Unit) (fun s_7 => [some (.im hand_here_1), some (.im kind_2), some (.im rooms_here_3), some (.im by_here_4), some (.im way_5)]) (et_test (EvW.r (ev_op ok_eq (EvW.r (ev_var (i := 4) rfl)) (EvW.r ev_int))))
 (blk_ret (EvW.f (ev_if (et_test (EvW.r (ev_op ok_ne (EvW.r (ev_var (i := 3) rfl)) (EvW.r (ev_tup ea_nil))))) (ev_op ok_add (EvW.r (ev_var (i := 3) rfl)) (EvW.r (ev_sl (EvW.r (ev_var (i := 3) rfl)) (eo_some (EvW.r (ev_neg (EvW.r ev_int)))) eo_none))) (ev_tup (ea_cons (ev_var (i := 2) rfl) ea_nil)))))
 (blk_fin [] (by rfl))) fun s_7 =>
 (blk_seq (blk_ifL (S := Unit) (fun s_8 => [some (.im hand_here_1), some (.im kind_2), some (.im rooms_here_3), some (.im by_here_4), some (.im way_5)]) (et_test (EvW.r (ev_op ok_eq (EvW.r (ev_var (i := 4) rfl)) (EvW.r ev_int))))
 (blk_ret (EvW.f (ev_sl (EvW.r (ev_var (i := 3) rfl)) eo_none (eo_some (EvW.r (ev_neg (EvW.r ev_int)))))))
 (blk_fin [] (by rfl))) fun s_8 =>
 (blk_seq (blk_ifL (S := Unit) (fun s_9 => [some (.im hand_here_1), some (.im kind_2), some (.im rooms_here_3), some (.im by_here_4), some (.im way_5)]) (et_test (EvW.r (ev_op ok_eq (EvW.r (ev_var (i := 4) rfl)) (EvW.r ev_int))))
 (blk_ret (EvW.f (ev_revT (EvW.r (ev_var (i := 3) rfl)))))
 (blk_fin [] (by rfl))) fun s_9 =>
 (blk_seq (blk_ifL (S := Unit) (fun s_10 => [some (.im hand_here_1), some (.im kind_2), some (.im rooms_here_3), some (.im by_here_4), some (.im way_5)]) (et_test (EvW.r (ev_op ok_eq (EvW.r (ev_var (i := 4) rfl)) (EvW.r ev_int))))
 (blk_ret (EvW.f (ev_op ok_add (EvW.r (ev_var (i := 3) rfl)) (EvW.r (ev_tup (ea_cons (ev_tup (ea_cons (ev_tup ea_nil) (ea_cons (ev_tup (ea_cons (ev_var (i := 2) rfl) ea_nil)) ea_nil))) ea_nil))))))
 (blk_fin [] (by rfl))) fun s_10 =>
 (blk_seq (blk_ifL (S := Unit) (fun s_11 => [some (.im hand_here_1), some (.im kind_2), some (.im rooms_here_3), some (.im by_here_4), some (.im way_5)]) (et_test (EvW.r (ev_op ok_eq (EvW.r (ev_var (i := 4) rfl)) (EvW.r ev_int))))
 (blk_ret (EvW.f (ev_op ok_add (EvW.r (ev_tup (ea_cons (ev_neg (EvW.r ev_int)) ea_nil))) (EvW.r (ev_sl (EvW.r (ev_var (i := 3) rfl)) (eo_some (EvW.r ev_int)) eo_none)))))
 (blk_fin [] (by rfl))) fun s_11 =>
 (blk_ret (EvW.f (ev_cb1 ok_list (EvW.r (ev_var (i := 3) rfl))))))))))))⟩⟩
noncomputable def m__law_ways (hand_here_1 letters_2 rooms_here_3 ways_here_4 : U) : M U := fnM (.bind (callM (L2' m__law_pick) (consA (.ret hand_here_1) (consA (.ret (.int 8)) nilA))) fun way_5 => (seqO (S := Unit) (iteW (testW (op2 eqU (.ret way_5) (.ret (.int 0)))) (rtO (op2 addU (.ret ways_here_4) (tupW (consA (tupW (consA (op2 subU (.ret rooms_here_3) (.ret (.int 1))) (consA (op2 subU (.ret letters_2) (.ret (.int 1))) (consA (.ret rooms_here_3) nilA)))) nilA)))) (nxO ())) fun s_6 => (seqO (S := Unit) (iteW (testW (op2 eqU (.ret way_5) (.ret (.int 1)))) (rtO (op2 addU (.ret ways_here_4) (tupW (consA (tupW (consA (op2 subU (.ret rooms_here_3) (.ret (.int 1))) (consA (.ret letters_2) (consA (.ret (.int 0)) nilA)))) nilA)))) (nxO ())) fun s_7 => (seqO (S := Unit) (iteW (testW (op2 eqU (.ret way_5) (.ret (.int 2)))) (rtO (op2 addU (op2 addU (.ret ways_here_4) (slW (.ret ways_here_4) (someP (op1 negU (.ret (.int 1)))) noP)) (op2 mulU (tupW (consA (tupW (consA (.ret rooms_here_3) (consA (.ret (.int 0)) (consA (.ret (.int 0)) nilA)))) nilA)) (op1 int1U (op2 eqU (.ret ways_here_4) (tupW nilA)))))) (nxO ())) fun s_8 => (seqO (S := Unit) (iteW (testW (op2 eqU (.ret way_5) (.ret (.int 3)))) (rtO (iteW (testW (op2 gtU (op1 lenU (.ret ways_here_4)) (.ret (.int 1)))) (op1 revTU (.ret ways_here_4)) (tupW (consA (tupW (consA (.ret (.int 0)) (consA (.ret (.int 0)) (consA (op1 negU (.ret (.int 1))) nilA)))) nilA)))) (nxO ())) fun s_9 => (seqO (S := Unit) (iteW (testW (op2 eqU (.ret way_5) (.ret (.int 4)))) (rtO (op2 addU (tupW (consA (tupW (consA (op1 negU (.ret (.int 1))) (consA (.ret (.int 0)) (consA (.ret (.int 0)) nilA)))) nilA)) (.ret ways_here_4))) (nxO ())) fun s_10 => (seqO (S := Unit) (iteW (testW (op2 eqU (.ret way_5) (.ret (.int 5)))) (rtO (op2 addU (.ret ways_here_4) (tupW (consA (tupW (consA (.ret (.int 0)) (consA (.ret (.int 0)) nilA))) nilA)))) (nxO ())) fun s_11 => (rtO (op2 ixU (lstW (consA (op1 listU (.ret ways_here_4)) (consA (op2 addU (.ret ways_here_4) (tupW (consA (.ret U.non) nilA))) nilA))) (op2 subU (.ret way_5) (.ret (.int 6))))))))))))
theorem w__law_ways {P : Program} {w : World} {K : PySem.W.Frag} {mg : Str → Option Value} {bs : Heap} (N : En w K mg) : FnOk P w K mg bs CX0 2 (He.ga K "_law_ways") N.fd__law_ways ["_law_hand_here", "_law_letters", "_law_rooms_here", "_law_ways_here"] (spM ⟨K, He.ga K⟩ (L4 m__law_ways)) :=
  fn_okF N.F__law_ways sc__law_ways (ar4 fun _ _ _ _ => rfl) fun cv A o s H E hr => ⟨_, PSs.nox (pss_cons (ps_set (i := 4) sc__law_ways.nd rfl (.inl rfl) (pe_call (w__law_pick N) (hr.mono (by decide)) (by rfl) N.g__law_pick N.F__law_pick.kp N.b__law_pick .nil pass0 (pa_cons (pv 0) (pa_cons pe_int pa_nil))))
 (pss_cons (ps_if (pt_cmpR (op_eqK K hr.units) (pv 4) pe_int (nomark _))
 (pss_one (ps_ret (pe_op (op_addK K) (pv 3) (pe_tup (pa_cons (pe_tup (pa_cons (pe_op op_sub (pv 2) pe_int) (pa_cons (pe_op op_sub (pv 1) pe_int) (pa_cons (pv 2) pa_nil)))) pa_nil)))))
 pss_nil)
 (pss_cons (ps_if (pt_cmpR (op_eqK K hr.units) (pv 4) pe_int (nomark _))
 (pss_one (ps_ret (pe_op (op_addK K) (pv 3) (pe_tup (pa_cons (pe_tup (pa_cons (pe_op op_sub (pv 2) pe_int) (pa_cons (pv 1) (pa_cons pe_int pa_nil)))) pa_nil)))))
 pss_nil)
 (pss_cons (ps_if (pt_cmpR (op_eqK K hr.units) (pv 4) pe_int (nomark _))
 (pss_one (ps_ret (pe_op (op_addK K) (pe_op (op_addK K) (pv 3) (pe_slice (sl_seqK K) (pv 3) (po_some (pe_un un_neg pe_int)) po_none)) (pe_op (op_mulK K) (pe_tup (pa_cons (pe_tup (pa_cons (pv 2) (pa_cons pe_int (pa_cons pe_int pa_nil)))) pa_nil)) (pe_callTy call_int1 (by rfl) N.m_int (by decide +kernel) (pa_cons (pe_cmpR (op_eqK K hr.units) (pv 3) (pe_tup pa_nil) (nomark _)) pa_nil))))))
 pss_nil)
 (pss_cons (ps_if (pt_cmpR (op_eqK K hr.units) (pv 4) pe_int (nomark _))
 (pss_one (ps_ret (pe_ifExp (pt_cmpR op_gt (pe_callB (call_lenK K) (by rfl) N.m_len PySem.boot_len (pa_cons (pv 3) pa_nil)) pe_int (nomark _)) (pe_revT K (pv 3)) (pe_tup (pa_cons (pe_tup (pa_cons pe_int (pa_cons pe_int (pa_cons (pe_un un_neg pe_int) pa_nil)))) pa_nil)))))
 pss_nil)
 (pss_cons (ps_if (pt_cmpR (op_eqK K hr.units) (pv 4) pe_int (nomark _))
 (pss_one (ps_ret (pe_op (op_addK K) (pe_tup (pa_cons (pe_tup (pa_cons (pe_un un_neg pe_int) (pa_cons pe_int (pa_cons pe_int pa_nil)))) pa_nil)) (pv 3))))
 pss_nil)
 (pss_cons (ps_if (pt_cmpR (op_eqK K hr.units) (pv 4) pe_int (nomark _))
 (pss_one (ps_ret (pe_op (op_addK K) (pv 3) (pe_tup (pa_cons (pe_tup (pa_cons pe_int (pa_cons pe_int pa_nil))) pa_nil)))))
 pss_nil)
 (pss_one (ps_ret (pe_ix (ix_seqK K) (pe_lst (pa_cons (pe_callTy (call_listK K) (by rfl) N.m_list (by decide +kernel) (pa_cons (pv 3) pa_nil)) (pa_cons (pe_op (op_addK K) (pv 3) (pe_tup (pa_cons pe_non pa_nil))) pa_nil))) (pe_op op_sub (pv 4) pe_int) (fun _ _ => rfl))))))))))),
   fun B H0 as0 => ar4 fun hand_here_1 letters_2 rooms_here_3 ways_here_4 => ⟨_, rfl,
 (blk_set (i := 4) (ev_call (ea_cons (ev_var (i := 0) rfl) (ea_cons ev_int ea_nil))) fun way_5 =>
 (blk_seq (blk_ifL (S := Unit) (fun s_6 => [some (.im hand_here_1), some (.im letters_2), some (.im rooms_here_3), some (.im ways_here_4), some (.im way_5)]) (et_test (EvW.r (ev_op ok_eq (EvW.r (ev_var (i := 4) rfl)) (EvW.r ev_int))))
 (blk_ret (EvW.f (ev_op ok_add (EvW.r (ev_var (i := 3) rfl)) (EvW.r (ev_tup (ea_cons (ev_tup (ea_cons (ev_op ok_sub (EvW.r (ev_var (i := 2) rfl)) (EvW.r ev_int)) (ea_cons (ev_op ok_sub (EvW.r (ev_var (i := 1) rfl)) (EvW.r ev_int)) (ea_cons (ev_var (i := 2) rfl) ea_nil)))) ea_nil))))))
 (blk_fin [] (by rfl))) fun s_6 =>
 (blk_seq (blk_ifL (S := Unit) (fun s_7 => [some (.im hand_here_1), some (.im letters_2), some (.im rooms_here_3), some (.im ways_here_4), some (.im way_5)]) (et_test (EvW.r (ev_op ok_eq (EvW.r (ev_var (i := 4) rfl)) (EvW.r ev_int))))
 (blk_ret (EvW.f (ev_op ok_add (EvW.r (ev_var (i := 3) rfl)) (EvW.r (ev_tup (ea_cons (ev_tup (ea_cons (ev_op ok_sub (EvW.r (ev_var (i := 2) rfl)) (EvW.r ev_int)) (ea_cons (ev_var (i := 1) rfl) (ea_cons ev_int ea_nil)))) ea_nil))))))
 (blk_fin [] (by rfl))) fun s_7 =>
 (blk_seq (blk_ifL (S := Unit) (fun s_8 => [some (.im hand_here_1), some (.im letters_2), some (.im rooms_here_3), some (.im ways_here_4), some (.im way_5)]) (et_test (EvW.r (ev_op ok_eq (EvW.r (ev_var (i := 4) rfl)) (EvW.r ev_int))))
 (blk_ret (EvW.f (ev_op ok_add (EvW.r (ev_op ok_add (EvW.r (ev_var (i := 3) rfl)) (EvW.r (ev_sl (EvW.r (ev_var (i := 3) rfl)) (eo_some (EvW.r (ev_neg (EvW.r ev_int)))) eo_none)))) (EvW.r (ev_op ok_mul (EvW.r (ev_tup (ea_cons (ev_tup (ea_cons (ev_var (i := 2) rfl) (ea_cons ev_int (ea_cons ev_int ea_nil)))) ea_nil))) (EvW.r (ev_cb1 (ok_int1 (fun i H Q q => .inl ⟨i, rfl, q⟩) fun b H Q q => .inr ⟨b, rfl, q⟩) (EvW.r (ev_op ok_eq (EvW.r (ev_var (i := 3) rfl)) (EvW.r (ev_tup ea_nil)))))))))))
 (blk_fin [] (by rfl))) fun s_8 =>
 (blk_seq (blk_ifL (S := Unit) (fun s_9 => [some (.im hand_here_1), some (.im letters_2), some (.im rooms_here_3), some (.im ways_here_4), some (.im way_5)]) (et_test (EvW.r (ev_op ok_eq (EvW.r (ev_var (i := 4) rfl)) (EvW.r ev_int))))
 (blk_ret (EvW.f (ev_if (et_test (EvW.r (ev_op ok_gt (EvW.r (ev_cb1 ok_len (EvW.r (ev_var (i := 3) rfl)))) (EvW.r ev_int)))) (ev_revT (EvW.r (ev_var (i := 3) rfl))) (ev_tup (ea_cons (ev_tup (ea_cons ev_int (ea_cons ev_int (ea_cons (ev_neg (EvW.r ev_int)) ea_nil)))) ea_nil)))))
 (blk_fin [] (by rfl))) fun s_9 =>
 (blk_seq (blk_ifL (S := Unit) (fun s_10 => [some (.im hand_here_1), some (.im letters_2), some (.im rooms_here_3), some (.im ways_here_4), some (.im way_5)]) (et_test (EvW.r (ev_op ok_eq (EvW.r (ev_var (i := 4) rfl)) (EvW.r ev_int))))
 (blk_ret (EvW.f (ev_op ok_add (EvW.r (ev_tup (ea_cons (ev_tup (ea_cons (ev_neg (EvW.r ev_int)) (ea_cons ev_int (ea_cons ev_int ea_nil)))) ea_nil))) (EvW.r (ev_var (i := 3) rfl)))))
 (blk_fin [] (by rfl))) fun s_10 =>
 (blk_seq (blk_ifL (S := Unit) (fun s_11 => [some (.im hand_here_1), some (.im letters_2), some (.im rooms_here_3), some (.im ways_here_4), some (.im way_5)]) (et_test (EvW.r (ev_op ok_eq (EvW.r (ev_var (i := 4) rfl)) (EvW.r ev_int))))
 (blk_ret (EvW.f (ev_op ok_add (EvW.r (ev_var (i := 3) rfl)) (EvW.r (ev_tup (ea_cons (ev_tup (ea_cons ev_int (ea_cons ev_int ea_nil))) ea_nil))))))
 (blk_fin [] (by rfl))) fun s_11 =>
 (blk_ret (EvW.f (ev_op ok_ix (EvW.r (EvN.ew (en_lst (ea_cons (ev_cb1 ok_list (EvW.r (ev_var (i := 3) rfl))) (ea_cons (ev_op ok_add (EvW.r (ev_var (i := 3) rfl)) (EvW.r (ev_tup (ea_cons ev_non ea_nil)))) ea_nil))))) (EvW.r (ev_op ok_sub (EvW.r (ev_var (i := 4) rfl)) (EvW.r ev_int)))))))))))))⟩⟩
noncomputable def m__law_bent (hand_here_1 things_2 at_3 : U) : M U := fnM (.bind (.ret things_2) fun u_18 => un6 u_18 fun letters_4 rooms_here_5 first_6 ways_here_7 kind_8 by_here_9 => (seqO (S := Unit) (iteW (testW (op2 eqU (.ret at_3) (.ret (.int 0)))) (rtO (op2 addU (tupW (consA (callM (L2' m__law_of) (consA (.ret hand_here_1) (consA (lstW (consA (.ret (.int 0)) (consA (.ret (.int 1)) (consA (.ret (.int 4)) (consA (.ret (.int 5)) (consA (op1 negU (.ret (.int 1))) (consA (.ret (U.bl true)) (consA (.ret (.str "1")) (consA (.ret U.non) nilA))))))))) nilA))) nilA)) (slW (.ret things_2) (someP (.ret (.int 1))) noP))) (nxO ())) fun s_10 => (seqO (S := Unit) (iteW (testW (op2 eqU (.ret at_3) (.ret (.int 1)))) (.bind (callM (L2' m__law_of) (consA (.ret hand_here_1) (consA (lstW (consA (.ret (.int 0)) (consA (.ret (.int 1)) (consA (op2 addU (.ret rooms_here_5) (.ret (.int 1))) (consA (op2 max2U (.ret (.int 1)) (op2 subU (.ret rooms_here_5) (.ret (.int 1)))) (consA (op1 negU (.ret (.int 1))) (consA (.ret (U.bl true)) (consA (.ret U.non) nilA)))))))) nilA))) fun other_12 => (rtO (op2 addU (op2 addU (slW (.ret things_2) noP (someP (.ret (.int 1)))) (tupW (consA (.ret other_12) nilA))) (slW (.ret things_2) (someP (.ret (.int 2))) noP)))) (nxO ())) fun s_11 => (seqO (S := Unit) (iteW (testW (op2 eqU (.ret at_3) (.ret (.int 2)))) (.bind (callM (L2' m__law_of) (consA (.ret hand_here_1) (consA (lstW (consA (.ret rooms_here_5) (consA (op2 subU (.ret rooms_here_5) (.ret (.int 1))) (consA (.ret (.int 0)) (consA (op1 negU (.ret (.int 1))) (consA (.ret (U.bl false)) (consA (.ret U.non) (consA (tupW (consA (.ret (.int 0)) nilA)) nilA)))))))) nilA))) fun other_14 => (rtO (op2 addU (op2 addU (slW (.ret things_2) noP (someP (.ret (.int 2)))) (tupW (consA (.ret other_14) nilA))) (slW (.ret things_2) (someP (.ret (.int 3))) noP)))) (nxO ())) fun s_13 => (seqO (S := Unit) (iteW (testW (op2 eqU (.ret at_3) (.ret (.int 3)))) (rtO (op2 addU (op2 addU (slW (.ret things_2) noP (someP (.ret (.int 3)))) (tupW (consA (callM (L4 m__law_ways) (consA (.ret hand_here_1) (consA (.ret letters_4) (consA (.ret rooms_here_5) (consA (.ret ways_here_7) nilA))))) nilA))) (slW (.ret things_2) (someP (.ret (.int 4))) noP))) (nxO ())) fun s_15 => (seqO (S := Unit) (iteW (testW (op2 eqU (.ret at_3) (.ret (.int 4)))) (.bind (callM (L2' m__law_of) (consA (.ret hand_here_1) (consA (lstW (consA (.ret (.str "again")) (consA (.ret (.str "ranks")) (consA (.ret (.str "pairs")) (consA (.ret (.str "at last")) (consA (.ret (.str "at-last")) (consA (.ret (.str "")) (consA (.ret U.non) (consA (.ret (.int 1)) nilA))))))))) nilA))) fun other_17 => (rtO (op2 addU (slW (.ret things_2) noP (someP (.ret (.int 4)))) (tupW (consA (.ret other_17) (consA (.ret by_here_9) nilA)))))) (nxO ())) fun s_16 => (rtO (op2 addU (slW (.ret things_2) noP (someP (.ret (.int 5)))) (tupW (consA (callM (L4 m__law_by_bent) (consA (.ret hand_here_1) (consA (.ret kind_8) (consA (.ret rooms_here_5) (consA (.ret by_here_9) nilA))))) nilA))))))))))
theorem w__law_bent {P : Program} {w : World} {K : PySem.W.Frag} {mg : Str → Option Value} {bs : Heap} (N : En w K mg) : FnOk P w K mg bs CX0 3 (He.ga K "_law_bent") N.fd__law_bent ["_law_hand_here", "_law_things", "_law_at"] (spM ⟨K, He.ga K⟩ (L3 m__law_bent)) :=
  fn_okF N.F__law_bent sc__law_bent (ar3 fun _ _ _ => rfl) fun cv A o s H E hr => ⟨_, PSs.nox (pss_cons (ps_asg (pv 1) (pg_tup rfl (pgs_cons (pg_name (i := 3) sc__law_bent.nd rfl (.inl rfl)) (pgs_cons (pg_name (i := 4) sc__law_bent.nd rfl (.inl rfl)) (pgs_cons (pg_name (i := 5) sc__law_bent.nd rfl (.inl rfl)) (pgs_cons (pg_name (i := 6) sc__law_bent.nd rfl (.inl rfl)) (pgs_cons (pg_name (i := 7) sc__law_bent.nd rfl (.inl rfl)) (pgs_cons (pg_name (i := 8) sc__law_bent.nd rfl (.inl rfl)) pgs_nil))))))))
 (pss_cons (ps_if (pt_cmpR (op_eqK K hr.units) (pv 2) pe_int (nomark _))
 (pss_one (ps_ret (pe_op (op_addK K) (pe_tup (pa_cons (pe_call (w__law_of N) (hr.mono (by decide)) (by rfl) N.g__law_of N.F__law_of.kp N.b__law_of .nil pass0 (pa_cons (pv 0) (pa_cons (pe_lst (pa_cons pe_int (pa_cons pe_int (pa_cons pe_int (pa_cons pe_int (pa_cons (pe_un un_neg pe_int) (pa_cons pe_bl (pa_cons pe_str (pa_cons pe_non pa_nil))))))))) pa_nil))) pa_nil)) (pe_slice (sl_seqK K) (pv 1) (po_some pe_int) po_none))))
 pss_nil)
 (pss_cons (ps_if (pt_cmpR (op_eqK K hr.units) (pv 2) pe_int (nomark _))
 (pss_cons (ps_set (i := 9) sc__law_bent.nd rfl (.inl rfl) (pe_call (w__law_of N) (hr.mono (by decide)) (by rfl) N.g__law_of N.F__law_of.kp N.b__law_of .nil pass0 (pa_cons (pv 0) (pa_cons (pe_lst (pa_cons pe_int (pa_cons pe_int (pa_cons (pe_op (op_addK K) (pv 4) pe_int) (pa_cons (pe_callB (call_max2 rfl) (by rfl) N.m_max (by decide +kernel) (pa_cons pe_int (pa_cons (pe_op op_sub (pv 4) pe_int) pa_nil))) (pa_cons (pe_un un_neg pe_int) (pa_cons pe_bl (pa_cons pe_non pa_nil)))))))) pa_nil))))
 (pss_one (ps_ret (pe_op (op_addK K) (pe_op (op_addK K) (pe_slice (sl_seqK K) (pv 1) po_none (po_some pe_int)) (pe_tup (pa_cons (pv 9) pa_nil))) (pe_slice (sl_seqK K) (pv 1) (po_some pe_int) po_none)))))
 pss_nil)
 (pss_cons (ps_if (pt_cmpR (op_eqK K hr.units) (pv 2) pe_int (nomark _))
 (pss_cons (ps_set (i := 9) sc__law_bent.nd rfl (.inl rfl) (pe_call (w__law_of N) (hr.mono (by decide)) (by rfl) N.g__law_of N.F__law_of.kp N.b__law_of .nil pass0 (pa_cons (pv 0) (pa_cons (pe_lst (pa_cons (pv 4) (pa_cons (pe_op op_sub (pv 4) pe_int) (pa_cons pe_int (pa_cons (pe_un un_neg pe_int) (pa_cons pe_bl (pa_cons pe_non (pa_cons (pe_tup (pa_cons pe_int pa_nil)) pa_nil)))))))) pa_nil))))
 (pss_one (ps_ret (pe_op (op_addK K) (pe_op (op_addK K) (pe_slice (sl_seqK K) (pv 1) po_none (po_some pe_int)) (pe_tup (pa_cons (pv 9) pa_nil))) (pe_slice (sl_seqK K) (pv 1) (po_some pe_int) po_none)))))
 pss_nil)
 (pss_cons (ps_if (pt_cmpR (op_eqK K hr.units) (pv 2) pe_int (nomark _))
 (pss_one (ps_ret (pe_op (op_addK K) (pe_op (op_addK K) (pe_slice (sl_seqK K) (pv 1) po_none (po_some pe_int)) (pe_tup (pa_cons (pe_call (w__law_ways N) (hr.mono (by decide)) (by rfl) N.g__law_ways N.F__law_ways.kp N.b__law_ways .nil pass0 (pa_cons (pv 0) (pa_cons (pv 3) (pa_cons (pv 4) (pa_cons (pv 6) pa_nil))))) pa_nil))) (pe_slice (sl_seqK K) (pv 1) (po_some pe_int) po_none))))
 pss_nil)
 (pss_cons (ps_if (pt_cmpR (op_eqK K hr.units) (pv 2) pe_int (nomark _))
 (pss_cons (ps_set (i := 9) sc__law_bent.nd rfl (.inl rfl) (pe_call (w__law_of N) (hr.mono (by decide)) (by rfl) N.g__law_of N.F__law_of.kp N.b__law_of .nil pass0 (pa_cons (pv 0) (pa_cons (pe_lst (pa_cons pe_str (pa_cons pe_str (pa_cons pe_str (pa_cons pe_str (pa_cons pe_str (pa_cons pe_str (pa_cons pe_non (pa_cons pe_int pa_nil))))))))) pa_nil))))
 (pss_one (ps_ret (pe_op (op_addK K) (pe_slice (sl_seqK K) (pv 1) po_none (po_some pe_int)) (pe_tup (pa_cons (pv 9) (pa_cons (pv 8) pa_nil)))))))
 pss_nil)
 (pss_one (ps_ret (pe_op (op_addK K) (pe_slice (sl_seqK K) (pv 1) po_none (po_some pe_int)) (pe_tup (pa_cons (pe_call (w__law_by_bent N) (hr.mono (by decide)) (by rfl) N.g__law_by_bent N.F__law_by_bent.kp N.b__law_by_bent .nil pass0 (pa_cons (pv 0) (pa_cons (pv 7) (pa_cons (pv 4) (pa_cons (pv 8) pa_nil))))) pa_nil))))))))))),
   fun B H0 as0 => ar3 fun hand_here_1 things_2 at_3 => ⟨_, rfl,
 (blk_tg (vs := [3, 4, 5, 6, 7, 8]) (ev_var (i := 1) rfl) (pat6 (P := fun δ w => Blk _ _ δ w _ _) (by decide) (by decide) (by decide) (by decide) (by decide) (by decide) fun letters_4 rooms_here_5 first_6 ways_here_7 kind_8 by_here_9 =>
 (blk_seq (blk_ifL (S := Unit) (fun s_10 => [some (.im hand_here_1), some (.im things_2), some (.im at_3), some (.im letters_4), some (.im rooms_here_5), some (.im first_6), some (.im ways_here_7), some (.im kind_8), some (.im by_here_9), none]) (et_test (EvW.r (ev_op ok_eq (EvW.r (ev_var (i := 2) rfl)) (EvW.r ev_int))))
 (blk_ret (EvW.f (ev_op ok_add (EvW.r (ev_tup (ea_cons (ev_call (ea_cons (ev_var (i := 0) rfl) (ea_cons (EvN.ew (en_lst (ea_cons ev_int (ea_cons ev_int (ea_cons ev_int (ea_cons ev_int (ea_cons (ev_neg (EvW.r ev_int)) (ea_cons ev_bl (ea_cons ev_str (ea_cons ev_non ea_nil)))))))))) ea_nil))) ea_nil))) (EvW.r (ev_sl (EvW.r (ev_var (i := 1) rfl)) (eo_some (EvW.r ev_int)) eo_none)))))
 (blk_fin [] (by rfl))) fun s_10 =>
 (blk_seq (blk_ifL (S := Unit) (fun s_11 => [some (.im hand_here_1), some (.im things_2), some (.im at_3), some (.im letters_4), some (.im rooms_here_5), some (.im first_6), some (.im ways_here_7), some (.im kind_8), some (.im by_here_9), none]) (et_test (EvW.r (ev_op ok_eq (EvW.r (ev_var (i := 2) rfl)) (EvW.r ev_int))))
 (blk_set (i := 9) (ev_call (ea_cons (ev_var (i := 0) rfl) (ea_cons (EvN.ew (en_lst (ea_cons ev_int (ea_cons ev_int (ea_cons (ev_op ok_add (EvW.r (ev_var (i := 4) rfl)) (EvW.r ev_int)) (ea_cons (ev_max2 (EvW.r ev_int) (EvW.r (ev_op ok_sub (EvW.r (ev_var (i := 4) rfl)) (EvW.r ev_int)))) (ea_cons (ev_neg (EvW.r ev_int)) (ea_cons ev_bl (ea_cons ev_non ea_nil))))))))) ea_nil))) fun other_12 =>
 (blk_ret (EvW.f (ev_op ok_add (EvW.r (ev_op ok_add (EvW.r (ev_sl (EvW.r (ev_var (i := 1) rfl)) eo_none (eo_some (EvW.r ev_int)))) (EvW.r (ev_tup (ea_cons (ev_var (i := 9) rfl) ea_nil))))) (EvW.r (ev_sl (EvW.r (ev_var (i := 1) rfl)) (eo_some (EvW.r ev_int)) eo_none))))))
 (blk_fin [9] (by rfl))) fun s_11 =>
 (blk_seq (blk_ifL (S := Unit) (fun s_13 => [some (.im hand_here_1), some (.im things_2), some (.im at_3), some (.im letters_4), some (.im rooms_here_5), some (.im first_6), some (.im ways_here_7), some (.im kind_8), some (.im by_here_9), none]) (et_test (EvW.r (ev_op ok_eq (EvW.r (ev_var (i := 2) rfl)) (EvW.r ev_int))))
 (blk_set (i := 9) (ev_call (ea_cons (ev_var (i := 0) rfl) (ea_cons (EvN.ew (en_lst (ea_cons (ev_var (i := 4) rfl) (ea_cons (ev_op ok_sub (EvW.r (ev_var (i := 4) rfl)) (EvW.r ev_int)) (ea_cons ev_int (ea_cons (ev_neg (EvW.r ev_int)) (ea_cons ev_bl (ea_cons ev_non (ea_cons (ev_tup (ea_cons ev_int ea_nil)) ea_nil))))))))) ea_nil))) fun other_14 =>
 (blk_ret (EvW.f (ev_op ok_add (EvW.r (ev_op ok_add (EvW.r (ev_sl (EvW.r (ev_var (i := 1) rfl)) eo_none (eo_some (EvW.r ev_int)))) (EvW.r (ev_tup (ea_cons (ev_var (i := 9) rfl) ea_nil))))) (EvW.r (ev_sl (EvW.r (ev_var (i := 1) rfl)) (eo_some (EvW.r ev_int)) eo_none))))))
 (blk_fin [9] (by rfl))) fun s_13 =>
 (blk_seq (blk_ifL (S := Unit) (fun s_15 => [some (.im hand_here_1), some (.im things_2), some (.im at_3), some (.im letters_4), some (.im rooms_here_5), some (.im first_6), some (.im ways_here_7), some (.im kind_8), some (.im by_here_9), none]) (et_test (EvW.r (ev_op ok_eq (EvW.r (ev_var (i := 2) rfl)) (EvW.r ev_int))))
 (blk_ret (EvW.f (ev_op ok_add (EvW.r (ev_op ok_add (EvW.r (ev_sl (EvW.r (ev_var (i := 1) rfl)) eo_none (eo_some (EvW.r ev_int)))) (EvW.r (ev_tup (ea_cons (ev_call (ea_cons (ev_var (i := 0) rfl) (ea_cons (ev_var (i := 3) rfl) (ea_cons (ev_var (i := 4) rfl) (ea_cons (ev_var (i := 6) rfl) ea_nil))))) ea_nil))))) (EvW.r (ev_sl (EvW.r (ev_var (i := 1) rfl)) (eo_some (EvW.r ev_int)) eo_none)))))
 (blk_fin [] (by rfl))) fun s_15 =>
 (blk_seq (blk_ifL (S := Unit) (fun s_16 => [some (.im hand_here_1), some (.im things_2), some (.im at_3), some (.im letters_4), some (.im rooms_here_5), some (.im first_6), some (.im ways_here_7), some (.im kind_8), some (.im by_here_9), none]) (et_test (EvW.r (ev_op ok_eq (EvW.r (ev_var (i := 2) rfl)) (EvW.r ev_int))))
 (blk_set (i := 9) (ev_call (ea_cons (ev_var (i := 0) rfl) (ea_cons (EvN.ew (en_lst (ea_cons ev_str (ea_cons ev_str (ea_cons ev_str (ea_cons ev_str (ea_cons ev_str (ea_cons ev_str (ea_cons ev_non (ea_cons ev_int ea_nil)))))))))) ea_nil))) fun other_17 =>
 (blk_ret (EvW.f (ev_op ok_add (EvW.r (ev_sl (EvW.r (ev_var (i := 1) rfl)) eo_none (eo_some (EvW.r ev_int)))) (EvW.r (ev_tup (ea_cons (ev_var (i := 9) rfl) (ea_cons (ev_var (i := 8) rfl) ea_nil))))))))
 (blk_fin [9] (by rfl))) fun s_16 =>
 (blk_ret (EvW.f (ev_op ok_add (EvW.r (ev_sl (EvW.r (ev_var (i := 1) rfl)) eo_none (eo_some (EvW.r ev_int)))) (EvW.r (ev_tup (ea_cons (ev_call (ea_cons (ev_var (i := 0) rfl) (ea_cons (ev_var (i := 7) rfl) (ea_cons (ev_var (i := 4) rfl) (ea_cons (ev_var (i := 8) rfl) ea_nil))))) ea_nil)))))))))))))⟩⟩
noncomputable def m__law_whole (thing_1 low_2 high_3 : U) : M U := fnM (rtO (andW (op1 (isiU · "int") (.ret thing_1)) (andW (op1 notU (op1 (isiU · "bool") (.ret thing_1))) (chainW leU ltU (.ret low_2) (.ret thing_1) (.ret high_3)))))
theorem w__law_whole {P : Program} {w : World} {K : PySem.W.Frag} {mg : Str → Option Value} {bs : Heap} (N : En w K mg) : FnOk P w K mg bs CX0 1 (He.ga K "_law_whole") N.fd__law_whole ["_law_thing", "_law_low", "_law_high"] (spM ⟨K, He.ga K⟩ (L3 m__law_whole)) :=
  fn_okF N.F__law_whole sc__law_whole (ar3 fun _ _ _ => rfl) fun cv A o s H E hr => ⟨_, PSs.nox (pss_one (ps_ret (pe_and (pe_callB (call_isiK K) (by rfl) N.m_isinstance (by decide +kernel) (pa_cons (pv 0) (pa_cons (pe_bltn (v := .ty "int") (by rfl) N.m_int (by decide +kernel) rfl) pa_nil))) (pe_and (pe_not (pe_callB (call_isiK K) (by rfl) N.m_isinstance (by decide +kernel) (pa_cons (pv 0) (pa_cons (pe_bltn (v := .ty "bool") (by rfl) N.m_bool (by decide +kernel) rfl) pa_nil)))) (pe_one (pe_chain op_le (op_ltK K hr.units) (pv 1) (pv 0) (pv 2))))))),
   fun B H0 as0 => ar3 fun thing_1 low_2 high_3 => ⟨_, rfl,
 (blk_ret (EvW.f (ev_and (EvW.r (ev_isi (EvW.r (ev_var (i := 0) rfl)))) (ev_and (EvW.r (ev_not (EvW.r (ev_isi (EvW.r (ev_var (i := 0) rfl)))))) (ev_chain ok_le ok_lt (EvW.r (ev_var (i := 1) rfl)) (EvW.r (ev_var (i := 0) rfl)) (EvW.r (ev_var (i := 2) rfl)))))))⟩⟩
noncomputable def m_are_rising (some_1 : U) : M U := fnM (rtO (op1 allU (lcW (zipW (.ret some_1) (slW (.ret some_1) (someP (.ret (.int 1))) noP)) (fun e_4 => un2 e_4 fun one_2 other_3 => (.ret true)) fun e_4 => un2 e_4 fun one_2 other_3 => (op2 ltU (.ret one_2) (.ret other_3)))))
theorem w_are_rising {P : Program} {w : World} {K : PySem.W.Frag} {mg : Str → Option Value} {bs : Heap} (N : En w K mg) : FnOk P w K mg bs CX0 1 (He.ga K "are_rising") N.fd_are_rising ["some"] (spM ⟨K, He.ga K⟩ (L1 m_are_rising)) :=
  fn_okF N.F_are_rising sc_are_rising (ar1 fun _ => rfl) fun cv A o s H E hr => ⟨_, PSs.nox (pss_one (ps_ret (pe_callB (cr_allK K rfl) (by rfl) N.m_all (by decide +kernel) (pa_cons (pe_lc (own := [("one", 1), ("other", 2)]) (by rfl) sc_are_rising.nd (pi_zipAK K (by rfl) N.m_zip (pa_cons (pv 0) (pa_cons (pe_slice (sl_seqK K) (pv 0) (po_some pe_int) po_none) pa_nil))) (blkOk_by (own := [("one", 1), ("other", 2)]) (N := N_are_rising) (sc := defScope s_are_rising) (by decide +kernel)) (fun _ _ _ _ _ => (pg_tupK K (n := 2) rfl (pgs_cons (pg_name (i := 1) sc_are_rising.nd rfl (.inl rfl)) (pgs_cons (pg_name (i := 2) sc_are_rising.nd rfl (.inl rfl)) pgs_nil)))) (fun _ _ _ _ _ => pts_nil) (fun _ _ _ _ _ => (pe_cmpR (op_ltK K hr.units) (pv 1) (pv 2) (nomark _)))) pa_nil)))),
   fun B H0 as0 => ar1 fun some_1 => ⟨_, rfl,
 (blk_ret (EvW.f (ev_cb1 ok_all (EvW.r (EvN.ew (en_lc (by rfl) (src_zip (ev_var (i := 0) rfl) (ev_sl (EvW.r (ev_var (i := 0) rfl)) (eo_some (EvW.r ev_int)) eo_none)) (lcp2 (i := 1) (j := 2) (vs := [1, 2]) (by decide) (by decide) fun one_2 other_3 => ⟨et_yes, (ev_op ok_lt (EvW.r (ev_var (i := 1) rfl)) (EvW.r (ev_var (i := 2) rfl)))⟩)))))))⟩⟩
noncomputable def m_is_whole (thing_1 : U) : M U := fnM (rtO (andW (op1 (isiU · "int") (.ret thing_1)) (op1 notU (op1 (isiU · "bool") (.ret thing_1)))))
theorem w_is_whole {P : Program} {w : World} {K : PySem.W.Frag} {mg : Str → Option Value} {bs : Heap} (N : En w K mg) : FnOk P w K mg bs CX0 1 (He.ga K "is_whole") N.fd_is_whole ["thing"] (spM ⟨K, He.ga K⟩ (L1 m_is_whole)) :=
  fn_okF N.F_is_whole sc_is_whole (ar1 fun _ => rfl) fun cv A o s H E hr => ⟨_, PSs.nox (pss_one (ps_ret (pe_and (pe_callB (call_isiK K) (by rfl) N.m_isinstance (by decide +kernel) (pa_cons (pv 0) (pa_cons (pe_bltn (v := .ty "int") (by rfl) N.m_int (by decide +kernel) rfl) pa_nil))) (pe_one (pe_not (pe_callB (call_isiK K) (by rfl) N.m_isinstance (by decide +kernel) (pa_cons (pv 0) (pa_cons (pe_bltn (v := .ty "bool") (by rfl) N.m_bool (by decide +kernel) rfl) pa_nil)))))))),
   fun B H0 as0 => ar1 fun thing_1 => ⟨_, rfl,
 (blk_ret (EvW.f (ev_and (EvW.r (ev_isi (EvW.r (ev_var (i := 0) rfl)))) (ev_not (EvW.r (ev_isi (EvW.r (ev_var (i := 0) rfl))))))))⟩⟩
noncomputable def m_is_below (thing_1 many_2 : U) : M U := fnM (rtO (andW (callM (L1 m_is_whole) (consA (.ret thing_1) nilA)) (chainW leU ltU (.ret (.int 0)) (.ret thing_1) (.ret many_2))))
theorem w_is_below {P : Program} {w : World} {K : PySem.W.Frag} {mg : Str → Option Value} {bs : Heap} (N : En w K mg) : FnOk P w K mg bs CX0 2 (He.ga K "is_below") N.fd_is_below ["thing", "many"] (spM ⟨K, He.ga K⟩ (L2' m_is_below)) :=
  fn_okF N.F_is_below sc_is_below (ar2 fun _ _ => rfl) fun cv A o s H E hr => ⟨_, PSs.nox (pss_one (ps_ret (pe_and (pe_call (w_is_whole N) (hr.mono (by decide)) (by rfl) N.g_is_whole N.F_is_whole.kp N.b_is_whole .nil pass0 (pa_cons (pv 0) pa_nil)) (pe_one (pe_chain op_le (op_ltK K hr.units) pe_int (pv 0) (pv 1)))))),
   fun B H0 as0 => ar2 fun thing_1 many_2 => ⟨_, rfl,
 (blk_ret (EvW.f (ev_and (EvW.r (ev_call (ea_cons (ev_var (i := 0) rfl) ea_nil))) (ev_chain ok_le ok_lt (EvW.r ev_int) (EvW.r (ev_var (i := 0) rfl)) (EvW.r (ev_var (i := 1) rfl))))))⟩⟩
noncomputable def m_are_rising_below (thing_1 many_2 : U) : M U := fnM (rtO (andW (op1 (isiU · "tuple") (.ret thing_1)) (andW (op1 allU (lcW (itW (.ret thing_1)) (fun one_3 => (.ret true)) fun one_3 => (callM (L2' m_is_below) (consA (.ret one_3) (consA (.ret many_2) nilA))))) (callM (L1 m_are_rising) (consA (.ret thing_1) nilA)))))
theorem w_are_rising_below {P : Program} {w : World} {K : PySem.W.Frag} {mg : Str → Option Value} {bs : Heap} (N : En w K mg) : FnOk P w K mg bs CX0 3 (He.ga K "are_rising_below") N.fd_are_rising_below ["thing", "many"] (spM ⟨K, He.ga K⟩ (L2' m_are_rising_below)) :=
  fn_okF N.F_are_rising_below sc_are_rising_below (ar2 fun _ _ => rfl) fun cv A o s H E hr => ⟨_, PSs.nox (pss_one (ps_ret (pe_and (pe_callB (call_isiK K) (by rfl) N.m_isinstance (by decide +kernel) (pa_cons (pv 0) (pa_cons (pe_bltn (v := .ty "tuple") (by rfl) N.m_tuple (by decide +kernel) rfl) pa_nil))) (pe_and (pe_callB (cr_allK K rfl) (by rfl) N.m_all (by decide +kernel) (pa_cons (pe_lc (own := [("one", 2)]) (by rfl) sc_are_rising_below.nd (pi_seqK K (pv 0)) (blkOk_by (own := [("one", 2)]) (N := N_are_rising_below) (sc := defScope s_are_rising_below) (by decide +kernel)) (fun _ _ _ _ _ => (pg_name (i := 2) sc_are_rising_below.nd rfl (.inl rfl))) (fun _ _ _ _ _ => pts_nil) (fun _ _ _ _ _ => (pe_call (w_is_below N) (hr.mono (by decide)) (by rfl) N.g_is_below N.F_is_below.kp N.b_is_below .nil pass0 (pa_cons (pv 2) (pa_cons (pv 1) pa_nil))))) pa_nil)) (pe_one (pe_call (w_are_rising N) (hr.mono (by decide)) (by rfl) N.g_are_rising N.F_are_rising.kp N.b_are_rising .nil pass0 (pa_cons (pv 0) pa_nil))))))),
   fun B H0 as0 => ar2 fun thing_1 many_2 => ⟨_, rfl,
 (blk_ret (EvW.f (ev_and (EvW.r (ev_isi (EvW.r (ev_var (i := 0) rfl)))) (ev_and (EvW.r (ev_cb1 ok_all (EvW.r (EvN.ew (en_lc (by rfl) (src_it (ev_var (i := 0) rfl)) fun one_3 st r q => ⟨_, tg_name (by decide), et_yes, (ev_call (ea_cons (ev_var (i := 2) rfl) (ea_cons (ev_var (i := 1) rfl) ea_nil)))⟩))))) (ev_call (ea_cons (ev_var (i := 0) rfl) ea_nil))))))⟩⟩
noncomputable def m_are_rooms (rooms_1 thing_2 : U) : M U := fnM (rtO (callM (L2' m_are_rising_below) (consA (.ret thing_2) (consA (.ret rooms_1) nilA))))
theorem w_are_rooms {P : Program} {w : World} {K : PySem.W.Frag} {mg : Str → Option Value} {bs : Heap} (N : En w K mg) : FnOk P w K mg bs CX0 4 (He.ga K "are_rooms") N.fd_are_rooms ["rooms", "thing"] (spM ⟨K, He.ga K⟩ (L2' m_are_rooms)) :=
  fn_okF N.F_are_rooms sc_are_rooms (ar2 fun _ _ => rfl) fun cv A o s H E hr => ⟨_, PSs.nox (pss_one (ps_ret (pe_call (w_are_rising_below N) (hr.mono (by decide)) (by rfl) N.g_are_rising_below N.F_are_rising_below.kp N.b_are_rising_below .nil pass0 (pa_cons (pv 1) (pa_cons (pv 0) pa_nil))))),
   fun B H0 as0 => ar2 fun rooms_1 thing_2 => ⟨_, rfl,
 (blk_ret (EvW.f (ev_call (ea_cons (ev_var (i := 1) rfl) (ea_cons (ev_var (i := 0) rfl) ea_nil)))))⟩⟩
noncomputable def m_are_pairs (rooms_1 thing_2 : U) : M U := fnM (seqO (S := Unit) (iteW (notT (testW (op1 (isiU · "tuple") (.ret thing_2)))) (rtO (.ret (U.bl false))) (nxO ())) fun s_3 => (seqO (S := Unit) (.bind (itW (.ret thing_2)) fun us => forO (fun pair_5 s_4 => (iteW (orT (notT (testW (op1 (isiU · "tuple") (.ret pair_5)))) (orT (testW (op2 neU (op1 lenU (.ret pair_5)) (.ret (.int 2)))) (notT (testW (op1 allU (lcW (itW (.ret pair_5)) (fun part_6 => (.ret true)) fun part_6 => (callM (L2' m_are_rooms) (consA (.ret rooms_1) (consA (.ret part_6) nilA))))))))) (rtO (.ret (U.bl false))) (nxO ()))) us ()) fun s_4 => (rtO (.ret (U.bl true)))))
theorem w_are_pairs {P : Program} {w : World} {K : PySem.W.Frag} {mg : Str → Option Value} {bs : Heap} (N : En w K mg) : FnOk P w K mg bs CX0 5 (He.ga K "are_pairs") N.fd_are_pairs ["rooms", "thing"] (spM ⟨K, He.ga K⟩ (L2' m_are_pairs)) :=
  fn_okF N.F_are_pairs sc_are_pairs (ar2 fun _ _ => rfl) fun cv A o s H E hr => ⟨_, PSs.nox (pss_cons (ps_if (pt_not (pt_val (pe_callB (call_isiK K) (by rfl) N.m_isinstance (by decide +kernel) (pa_cons (pv 1) (pa_cons (pe_bltn (v := .ty "tuple") (by rfl) N.m_tuple (by decide +kernel) rfl) pa_nil)))))
 (pss_one (ps_ret pe_bl))
 pss_nil)
 (pss_cons (ps_for PassesOwn.never rfl (pi_seqK K (pv 1)) (pg_name (i := 2) sc_are_pairs.nd rfl (.inl rfl))
 (pss_one (ps_if (PW.pt (pw_or (pt_not (pt_val (pe_callB (call_isiK K) (by rfl) N.m_isinstance (by decide +kernel) (pa_cons (pv 2) (pa_cons (pe_bltn (v := .ty "tuple") (by rfl) N.m_tuple (by decide +kernel) rfl) pa_nil))))) (pw_or (pt_cmpR (op_neK K hr.units) (pe_callB (call_lenK K) (by rfl) N.m_len PySem.boot_len (pa_cons (pv 2) pa_nil)) pe_int (nomark _)) (pw_or1 (pt_not (pt_val (pe_callB (cr_allK K rfl) (by rfl) N.m_all (by decide +kernel) (pa_cons (pe_lc (own := [("part", 3)]) (by rfl) sc_are_pairs.nd (pi_seqK K (pv 2)) (blkOk_by (own := [("part", 3)]) (N := N_are_pairs) (sc := defScope s_are_pairs) (by decide +kernel)) (fun _ _ _ _ _ => (pg_name (i := 3) sc_are_pairs.nd rfl (.inl rfl))) (fun _ _ _ _ _ => pts_nil) (fun _ _ _ _ _ => (pe_call (w_are_rooms N) (hr.mono (by decide)) (by rfl) N.g_are_rooms N.F_are_rooms.kp N.b_are_rooms .nil pass0 (pa_cons (pv 0) (pa_cons (pv 3) pa_nil))))) pa_nil))))))))
 (pss_one (ps_ret pe_bl))
 pss_nil)))
 (pss_one (ps_ret pe_bl)))),
   fun B H0 as0 => ar2 fun rooms_1 thing_2 => ⟨_, rfl,
 (blk_seq (blk_ifL (S := Unit) (fun s_3 => [some (.im rooms_1), some (.im thing_2), none, none]) (et_not (et_B (EvW.r (ev_isi (EvW.r (ev_var (i := 1) rfl))))))
 (blk_ret (EvW.f ev_bl))
 (blk_fin [] (by rfl))) fun s_3 =>
 (blk_seq (blk_forL (S := Unit) [2] [2] (fun s_4 => [some (.im rooms_1), some (.im thing_2), none, none]) (by rfl) (src_it (ev_var (i := 1) rfl))
 (fun s_4 pair_5 st r q => ⟨_, tg_name (by decide), (blk_if (et_or (et_not (et_B (EvW.r (ev_isi (EvW.r (ev_var (i := 2) rfl)))))) (et_or (et_test (EvW.r (ev_op ok_ne (EvW.r (ev_cb1 ok_len (EvW.r (ev_var (i := 2) rfl)))) (EvW.r ev_int)))) (et_not (et_B (EvW.r (ev_cb1 ok_all (EvW.r (EvN.ew (en_lc (by rfl) (src_it (ev_var (i := 2) rfl)) fun part_6 st r q => ⟨_, tg_name (by decide), et_yes, (ev_call (ea_cons (ev_var (i := 0) rfl) (ea_cons (ev_var (i := 3) rfl) ea_nil)))⟩)))))))))
 (blk_ret (EvW.f ev_bl))
 (blk_fin [2] (by rfl)))⟩)) fun s_4 =>
 (blk_ret (EvW.f ev_bl))))⟩⟩
noncomputable def m_are_ranks (rooms_1 thing_2 : U) : M U := fnM (rtO (andW (op1 (isiU · "tuple") (.ret thing_2)) (andW (op2 eqU (op1 lenU (.ret thing_2)) (.ret rooms_1)) (op1 allU (lcW (itW (.ret thing_2)) (fun one_3 => (.ret true)) fun one_3 => (andW (callM (L1 m_is_whole) (consA (.ret one_3) nilA)) (op2 geU (.ret one_3) (.ret (.int 0)))))))))
theorem w_are_ranks {P : Program} {w : World} {K : PySem.W.Frag} {mg : Str → Option Value} {bs : Heap} (N : En w K mg) : FnOk P w K mg bs CX0 2 (He.ga K "are_ranks") N.fd_are_ranks ["rooms", "thing"] (spM ⟨K, He.ga K⟩ (L2' m_are_ranks)) :=
  fn_okF N.F_are_ranks sc_are_ranks (ar2 fun _ _ => rfl) fun cv A o s H E hr => ⟨_, PSs.nox (pss_one (ps_ret (pe_and (pe_callB (call_isiK K) (by rfl) N.m_isinstance (by decide +kernel) (pa_cons (pv 1) (pa_cons (pe_bltn (v := .ty "tuple") (by rfl) N.m_tuple (by decide +kernel) rfl) pa_nil))) (pe_and (pe_cmpR (op_eqK K hr.units) (pe_callB (call_lenK K) (by rfl) N.m_len PySem.boot_len (pa_cons (pv 1) pa_nil)) (pv 0) (nomark _)) (pe_one (pe_callB (cr_allK K rfl) (by rfl) N.m_all (by decide +kernel) (pa_cons (pe_lc (own := [("one", 2)]) (by rfl) sc_are_ranks.nd (pi_seqK K (pv 1)) (blkOk_by (own := [("one", 2)]) (N := N_are_ranks) (sc := defScope s_are_ranks) (by decide +kernel)) (fun _ _ _ _ _ => (pg_name (i := 2) sc_are_ranks.nd rfl (.inl rfl))) (fun _ _ _ _ _ => pts_nil) (fun _ _ _ _ _ => (pe_and (pe_call (w_is_whole N) (hr.mono (by decide)) (by rfl) N.g_is_whole N.F_is_whole.kp N.b_is_whole .nil pass0 (pa_cons (pv 2) pa_nil)) (pe_one (pe_cmpR op_ge (pv 2) pe_int (nomark _)))))) pa_nil))))))),
   fun B H0 as0 => ar2 fun rooms_1 thing_2 => ⟨_, rfl,
 (blk_ret (EvW.f (ev_and (EvW.r (ev_isi (EvW.r (ev_var (i := 1) rfl)))) (ev_and (EvW.r (ev_op ok_eq (EvW.r (ev_cb1 ok_len (EvW.r (ev_var (i := 1) rfl)))) (EvW.r (ev_var (i := 0) rfl)))) (ev_cb1 ok_all (EvW.r (EvN.ew (en_lc (by rfl) (src_it (ev_var (i := 1) rfl)) fun one_3 st r q => ⟨_, tg_name (by decide), et_yes, (ev_and (EvW.r (ev_call (ea_cons (ev_var (i := 2) rfl) ea_nil))) (ev_op ok_ge (EvW.r (ev_var (i := 2) rfl)) (EvW.r ev_int)))⟩))))))))⟩⟩
noncomputable def m_are_ways (letters_1 rooms_2 thing_3 : U) : M U := fnM (seqO (S := Unit) (iteW (notT (testW (op1 (isiU · "tuple") (.ret thing_3)))) (rtO (.ret (U.bl false))) (nxO ())) fun s_4 => (seqO (S := Unit) (.bind (itW (.ret thing_3)) fun us => forO (fun way_6 s_5 => (seqO (S := Unit) (iteW (orT (notT (testW (op1 (isiU · "tuple") (.ret way_6)))) (testW (op2 neU (op1 lenU (.ret way_6)) (.ret (.int 3))))) (rtO (.ret (U.bl false))) (nxO ())) fun s_7 => (iteW (orT (notT (testW (callM (L2' m_is_below) (consA (op2 ixU (.ret way_6) (.ret (.int 0))) (consA (.ret rooms_2) nilA))))) (orT (notT (testW (callM (L2' m_is_below) (consA (op2 ixU (.ret way_6) (.ret (.int 1))) (consA (.ret letters_1) nilA))))) (notT (testW (callM (L2' m_is_below) (consA (op2 ixU (.ret way_6) (.ret (.int 2))) (consA (.ret rooms_2) nilA))))))) (rtO (.ret (U.bl false))) (nxO ())))) us ()) fun s_5 => (rtO (callM (L1 m_are_rising) (consA (.ret thing_3) nilA)))))
theorem w_are_ways {P : Program} {w : World} {K : PySem.W.Frag} {mg : Str → Option Value} {bs : Heap} (N : En w K mg) : FnOk P w K mg bs CX0 3 (He.ga K "are_ways") N.fd_are_ways ["letters", "rooms", "thing"] (spM ⟨K, He.ga K⟩ (L3 m_are_ways)) :=
  fn_okF N.F_are_ways sc_are_ways (ar3 fun _ _ _ => rfl) fun cv A o s H E hr => ⟨_, PSs.nox (pss_cons (ps_if (pt_not (pt_val (pe_callB (call_isiK K) (by rfl) N.m_isinstance (by decide +kernel) (pa_cons (pv 2) (pa_cons (pe_bltn (v := .ty "tuple") (by rfl) N.m_tuple (by decide +kernel) rfl) pa_nil)))))
 (pss_one (ps_ret pe_bl))
 pss_nil)
 (pss_cons (ps_for PassesOwn.never rfl (pi_seqK K (pv 2)) (pg_name (i := 3) sc_are_ways.nd rfl (.inl rfl))
 (pss_cons (ps_if (PW.pt (pw_or (pt_not (pt_val (pe_callB (call_isiK K) (by rfl) N.m_isinstance (by decide +kernel) (pa_cons (pv 3) (pa_cons (pe_bltn (v := .ty "tuple") (by rfl) N.m_tuple (by decide +kernel) rfl) pa_nil))))) (pw_or1 (pt_cmpR (op_neK K hr.units) (pe_callB (call_lenK K) (by rfl) N.m_len PySem.boot_len (pa_cons (pv 3) pa_nil)) pe_int (nomark _)))))
 (pss_one (ps_ret pe_bl))
 pss_nil)
 (pss_one (ps_if (PW.pt (pw_or (pt_not (pt_val (pe_call (w_is_below N) (hr.mono (by decide)) (by rfl) N.g_is_below N.F_is_below.kp N.b_is_below .nil pass0 (pa_cons (pe_ix (ix_seqK K) (pv 3) pe_int (fun _ _ => rfl)) (pa_cons (pv 1) pa_nil))))) (pw_or (pt_not (pt_val (pe_call (w_is_below N) (hr.mono (by decide)) (by rfl) N.g_is_below N.F_is_below.kp N.b_is_below .nil pass0 (pa_cons (pe_ix (ix_seqK K) (pv 3) pe_int (fun _ _ => rfl)) (pa_cons (pv 0) pa_nil))))) (pw_or1 (pt_not (pt_val (pe_call (w_is_below N) (hr.mono (by decide)) (by rfl) N.g_is_below N.F_is_below.kp N.b_is_below .nil pass0 (pa_cons (pe_ix (ix_seqK K) (pv 3) pe_int (fun _ _ => rfl)) (pa_cons (pv 1) pa_nil)))))))))
 (pss_one (ps_ret pe_bl))
 pss_nil))))
 (pss_one (ps_ret (pe_call (w_are_rising N) (hr.mono (by decide)) (by rfl) N.g_are_rising N.F_are_rising.kp N.b_are_rising .nil pass0 (pa_cons (pv 2) pa_nil)))))),
   fun B H0 as0 => ar3 fun letters_1 rooms_2 thing_3 => ⟨_, rfl,
 (blk_seq (blk_ifL (S := Unit) (fun s_4 => [some (.im letters_1), some (.im rooms_2), some (.im thing_3), none]) (et_not (et_B (EvW.r (ev_isi (EvW.r (ev_var (i := 2) rfl))))))
 (blk_ret (EvW.f ev_bl))
 (blk_fin [] (by rfl))) fun s_4 =>
 (blk_seq (blk_forL (S := Unit) [3] [3] (fun s_5 => [some (.im letters_1), some (.im rooms_2), some (.im thing_3), none]) (by rfl) (src_it (ev_var (i := 2) rfl))
 (fun s_5 way_6 st r q => ⟨_, tg_name (by decide), (blk_seq (blk_ifL (S := Unit) (fun s_7 => [some (.im letters_1), some (.im rooms_2), some (.im thing_3), some (.im way_6)]) (et_or (et_not (et_B (EvW.r (ev_isi (EvW.r (ev_var (i := 3) rfl)))))) (et_test (EvW.r (ev_op ok_ne (EvW.r (ev_cb1 ok_len (EvW.r (ev_var (i := 3) rfl)))) (EvW.r ev_int)))))
 (blk_ret (EvW.f ev_bl))
 (blk_fin [] (by rfl))) fun s_7 =>
 (blk_if (et_or (et_not (et_B (EvW.r (ev_call (ea_cons (ev_op ok_ix (EvW.r (ev_var (i := 3) rfl)) (EvW.r ev_int)) (ea_cons (ev_var (i := 1) rfl) ea_nil)))))) (et_or (et_not (et_B (EvW.r (ev_call (ea_cons (ev_op ok_ix (EvW.r (ev_var (i := 3) rfl)) (EvW.r ev_int)) (ea_cons (ev_var (i := 0) rfl) ea_nil)))))) (et_not (et_B (EvW.r (ev_call (ea_cons (ev_op ok_ix (EvW.r (ev_var (i := 3) rfl)) (EvW.r ev_int)) (ea_cons (ev_var (i := 1) rfl) ea_nil))))))))
 (blk_ret (EvW.f ev_bl))
 (blk_fin [3] (by rfl))))⟩)) fun s_5 =>
 (blk_ret (EvW.f (ev_call (ea_cons (ev_var (i := 2) rfl) ea_nil))))))⟩⟩
noncomputable def m_fault_of (letters_1 rooms_2 start_3 ways_4 kind_5 by_6 : U) : M U := fnM (seqO (S := Unit) (iteW (orT (notT (testW (callM (L1 m_is_whole) (consA (.ret letters_1) nilA)))) (notT (testW (chainW leU leU (.ret (.int 1)) (.ret letters_1) (.ret (.int 4)))))) (rtO (.ret (.str "letters"))) (nxO ())) fun s_7 => (seqO (S := Unit) (iteW (orT (notT (testW (callM (L1 m_is_whole) (consA (.ret rooms_2) nilA)))) (testW (op2 ltU (.ret rooms_2) (.ret (.int 1))))) (rtO (.ret (.str "rooms"))) (nxO ())) fun s_8 => (seqO (S := Unit) (iteW (notT (testW (callM (L2' m_is_below) (consA (.ret start_3) (consA (.ret rooms_2) nilA))))) (rtO (.ret (.str "start"))) (nxO ())) fun s_9 => (seqO (S := Unit) (iteW (notT (testW (callM (L3 m_are_ways) (consA (.ret letters_1) (consA (.ret rooms_2) (consA (.ret ways_4) nilA)))))) (rtO (.ret (.str "ways"))) (nxO ())) fun s_10 => (seqO (S := Unit) (iteW (orT (notT (testW (op1 (isiU · "str") (.ret kind_5)))) (testW (op2 (notTabU "KINDS" tab_KINDS) (.ret kind_5) (.ret (.top "KINDS"))))) (rtO (.ret (.str "kind"))) (nxO ())) fun s_11 => (.bind (op2 (itemTabU "KINDS" tab_KINDS) (.ret (.top "KINDS")) (.ret kind_5)) fun looked_12 => (rtO (iteW (testW (callJM [("are_rooms", L2' m_are_rooms), ("are_pairs", L2' m_are_pairs), ("are_ranks", L2' m_are_ranks)] looked_12 (consA (.ret rooms_2) (consA (.ret by_6) nilA)))) (.ret U.non) (.ret (.str "by"))))))))))
theorem w_fault_of {P : Program} {w : World} {K : PySem.W.Frag} {mg : Str → Option Value} {bs : Heap} (N : En w K mg) : FnOk P w K mg bs CX0 6 (He.ga K "fault_of") N.fd_fault_of ["letters", "rooms", "start", "ways", "kind", "by"] (spM ⟨K, He.ga K⟩ (L6 m_fault_of)) :=
  fn_okF N.F_fault_of sc_fault_of (ar6 fun _ _ _ _ _ _ => rfl) fun cv A o s H E hr => ⟨_, PSs.nox (pss_cons (ps_if (PW.pt (pw_or (pt_not (pt_val (pe_call (w_is_whole N) (hr.mono (by decide)) (by rfl) N.g_is_whole N.F_is_whole.kp N.b_is_whole .nil pass0 (pa_cons (pv 0) pa_nil)))) (pw_or1 (pt_not (pt_chain op_le op_le pe_int (pv 0) (pe_glob (v := .int 4) rfl N.k_MOST_LETTERS ⟨_, rfl⟩))))))
 (pss_one (ps_ret pe_str))
 pss_nil)
 (pss_cons (ps_if (PW.pt (pw_or (pt_not (pt_val (pe_call (w_is_whole N) (hr.mono (by decide)) (by rfl) N.g_is_whole N.F_is_whole.kp N.b_is_whole .nil pass0 (pa_cons (pv 1) pa_nil)))) (pw_or1 (pt_cmpR (op_ltK K hr.units) (pv 1) pe_int (nomark _)))))
 (pss_one (ps_ret pe_str))
 pss_nil)
 (pss_cons (ps_if (pt_not (pt_val (pe_call (w_is_below N) (hr.mono (by decide)) (by rfl) N.g_is_below N.F_is_below.kp N.b_is_below .nil pass0 (pa_cons (pv 2) (pa_cons (pv 1) pa_nil)))))
 (pss_one (ps_ret pe_str))
 pss_nil)
 (pss_cons (ps_if (pt_not (pt_val (pe_call (w_are_ways N) (hr.mono (by decide)) (by rfl) N.g_are_ways N.F_are_ways.kp N.b_are_ways .nil pass0 (pa_cons (pv 0) (pa_cons (pv 1) (pa_cons (pv 3) pa_nil))))))
 (pss_one (ps_ret pe_str))
 pss_nil)
 (pss_cons (ps_if (PW.pt (pw_or (pt_not (pt_val (pe_callB (call_isiK K) (by rfl) N.m_isinstance (by decide +kernel) (pa_cons (pv 4) (pa_cons (pe_bltn (v := .ty "str") (by rfl) N.m_str (by decide +kernel) rfl) pa_nil))))) (pw_or1 (pt_cmpR (op_notTabK K N.T_KINDS) (pv 4) (pe_glob (v := .ref (He.ga K "KINDS")) rfl N.g_KINDS rfl) (by rfl)))))
 (pss_one (ps_ret pe_str))
 pss_nil)
 (pss_cons (ps_set (i := 6) sc_fault_of.nd rfl (.inl rfl) (pe_ix (ix_kdictK K w) (pe_glob (v := .ref (He.ga K "KINDS")) rfl N.g_KINDS rfl) (pv 4) (fun _ _ => rfl)))
 (pss_one (ps_ret (pe_ifExp (pt_val (pe_callJ (callJ_cons (pe_callL (i := 6) (w_are_rooms N) (hr.mono (by decide)) rfl (by first | exact Or.inl rfl | exact Or.inr (Or.inl rfl) | exact Or.inr (Or.inr rfl)) N.F_are_rooms.kp N.b_are_rooms .nil pass0 (pa_cons (pv 1) (pa_cons (pv 5) pa_nil))) (callJ_cons (pe_callL (i := 6) (w_are_pairs N) (hr.mono (by decide)) rfl (by first | exact Or.inl rfl | exact Or.inr (Or.inl rfl) | exact Or.inr (Or.inr rfl)) N.F_are_pairs.kp N.b_are_pairs .nil pass0 (pa_cons (pv 1) (pa_cons (pv 5) pa_nil))) (callJ_cons (pe_callL (i := 6) (w_are_ranks N) (hr.mono (by decide)) rfl (by first | exact Or.inl rfl | exact Or.inr (Or.inl rfl) | exact Or.inr (Or.inr rfl)) N.F_are_ranks.kp N.b_are_ranks .nil pass0 (pa_cons (pv 1) (pa_cons (pv 5) pa_nil))) callJ_nil))))) pe_non pe_str))))))))),
   fun B H0 as0 => ar6 fun letters_1 rooms_2 start_3 ways_4 kind_5 by_6 => ⟨_, rfl,
 (blk_seq (blk_ifL (S := Unit) (fun s_7 => [some (.im letters_1), some (.im rooms_2), some (.im start_3), some (.im ways_4), some (.im kind_5), some (.im by_6), none]) (et_or (et_not (et_B (EvW.r (ev_call (ea_cons (ev_var (i := 0) rfl) ea_nil))))) (et_not (et_test (EvW.r (ev_chain ok_le ok_le (EvW.r ev_int) (EvW.r (ev_var (i := 0) rfl)) (EvW.r ev_int))))))
 (blk_ret (EvW.f ev_str))
 (blk_fin [] (by rfl))) fun s_7 =>
 (blk_seq (blk_ifL (S := Unit) (fun s_8 => [some (.im letters_1), some (.im rooms_2), some (.im start_3), some (.im ways_4), some (.im kind_5), some (.im by_6), none]) (et_or (et_not (et_B (EvW.r (ev_call (ea_cons (ev_var (i := 1) rfl) ea_nil))))) (et_test (EvW.r (ev_op ok_lt (EvW.r (ev_var (i := 1) rfl)) (EvW.r ev_int)))))
 (blk_ret (EvW.f ev_str))
 (blk_fin [] (by rfl))) fun s_8 =>
 (blk_seq (blk_ifL (S := Unit) (fun s_9 => [some (.im letters_1), some (.im rooms_2), some (.im start_3), some (.im ways_4), some (.im kind_5), some (.im by_6), none]) (et_not (et_B (EvW.r (ev_call (ea_cons (ev_var (i := 2) rfl) (ea_cons (ev_var (i := 1) rfl) ea_nil))))))
 (blk_ret (EvW.f ev_str))
 (blk_fin [] (by rfl))) fun s_9 =>
 (blk_seq (blk_ifL (S := Unit) (fun s_10 => [some (.im letters_1), some (.im rooms_2), some (.im start_3), some (.im ways_4), some (.im kind_5), some (.im by_6), none]) (et_not (et_B (EvW.r (ev_call (ea_cons (ev_var (i := 0) rfl) (ea_cons (ev_var (i := 1) rfl) (ea_cons (ev_var (i := 3) rfl) ea_nil)))))))
 (blk_ret (EvW.f ev_str))
 (blk_fin [] (by rfl))) fun s_10 =>
 (blk_seq (blk_ifL (S := Unit) (fun s_11 => [some (.im letters_1), some (.im rooms_2), some (.im start_3), some (.im ways_4), some (.im kind_5), some (.im by_6), none]) (et_or (et_not (et_B (EvW.r (ev_isi (EvW.r (ev_var (i := 4) rfl)))))) (et_test (EvW.r (ev_op (ok_notTab N.T_KINDS) (EvW.r (ev_var (i := 4) rfl)) (EvW.r ev_top)))))
 (blk_ret (EvW.f ev_str))
 (blk_fin [] (by rfl))) fun s_11 =>
 (blk_set (i := 6) (ev_op (ok_itemTab N.T_KINDS) (EvW.r ev_top) (EvW.r (ev_var (i := 4) rfl))) fun looked_12 =>
 (blk_ret (EvW.f (ev_if (et_B (EvW.r (ev_callJ (i := 6) rfl (ea_cons (ev_var (i := 1) rfl) (ea_cons (ev_var (i := 5) rfl) ea_nil))))) ev_non ev_str)))))))))⟩⟩
noncomputable def m_Hall___init__ (self_1 letters_2 rooms_3 start_4 ways_5 kind_6 by_7 : U) : M U := fnX (seqO (S := U) (.bind (callM (L6 m_fault_of) (consA (.ret letters_2) (consA (.ret rooms_3) (consA (.ret start_4) (consA (.ret ways_5) (consA (.ret kind_6) (consA (.ret by_7) nilA))))))) fun why_9 => (nxO why_9)) fun s_8 => (seqO (S := Unit) (iteW (testW (.bind (.ret s_8) fun a => .ret (.bl (!isNU a)))) (.bind (.ret s_8) fun u => .ret (.rt (exO "NoHall" "why" u))) (nxO ())) fun s_10 => (.bind (.bind (.ret letters_2) fun u => .o (leafO u)) fun x => .bind (locM self_1) fun c => .bind (.o (newF ["Hall"] "letters" c x)) fun u => .bind (putC c.1 u) fun _ => (.bind (.bind (.ret rooms_3) fun u => .o (leafO u)) fun x => .bind (locM self_1) fun c => .bind (.o (newF ["Hall"] "rooms" c x)) fun u => .bind (putC c.1 u) fun _ => (.bind (.bind (.ret start_4) fun u => .o (leafO u)) fun x => .bind (locM self_1) fun c => .bind (.o (newF ["Hall"] "start" c x)) fun u => .bind (putC c.1 u) fun _ => (.bind (.bind (.ret ways_5) fun u => .o (leafO u)) fun x => .bind (locM self_1) fun c => .bind (.o (newF ["Hall"] "ways" c x)) fun u => .bind (putC c.1 u) fun _ => (.bind (.bind (.ret kind_6) fun u => .o (leafO u)) fun x => .bind (locM self_1) fun c => .bind (.o (newF ["Hall"] "kind" c x)) fun u => .bind (putC c.1 u) fun _ => (.bind (.bind (.ret by_7) fun u => .o (leafO u)) fun x => .bind (locM self_1) fun c => .bind (.o (newF ["Hall"] "by" c x)) fun u => .bind (putC c.1 u) fun _ => (.bind (lcW (rng1W (.ret rooms_3)) (fun room_11 => (.ret true)) fun room_11 => (.ret (.dct [] []))) fun x => .bind (locM self_1) fun c => .bind (.o (newF ["Hall"] "goals" c x)) fun u => .bind (putC c.1 u) fun _ => (seqO (S := Unit) (.bind (itW (.ret ways_5)) fun us => forO (fun e_16 s_12 => un3 e_16 fun room_13 letter_14 end_15 => (.bind (.bind (.bind (.bind (.ret self_1) locM) fun c => .o (fldC ["Hall"] "goals" c)) fun c => .bind (.ret room_13) fun n => .o (ixC c n)) fun c => .bind (.ret letter_14) fun y => .bind (.o (sdAppU c.2.1 y end_15)) fun d => .bind (putC c.1 (c.2.2 d)) fun _ => (nxO ()))) us ()) fun s_12 => (nxO ())))))))))))
theorem w_Hall___init__ {P : Program} {w : World} {K : PySem.W.Frag} {mg : Str → Option Value} {bs : Heap} (N : En w K mg) : FnOk P w K mg bs (L2.CX P w) 7 (He.ma K (He.ga K "Hall") "__init__") N.fd_Hall___init__ ["self", "letters", "rooms", "start", "ways", "kind", "by"] (spX ⟨K, He.ga K⟩ (L7 m_Hall___init__)) :=
  fn_okXF N.F_Hall___init__ sc_Hall___init__ (ar7 fun _ _ _ _ _ _ _ => rfl) fun cv A o s H E hr => ⟨_, (pss_cons (ps_set (i := 7) sc_Hall___init__.nd rfl (.inl rfl) (pe_call (w_fault_of N) (hr.mono (by decide)) (by rfl) N.g_fault_of N.F_fault_of.kp N.b_fault_of .nil pass0 (pa_cons (pv 1) (pa_cons (pv 2) (pa_cons (pv 3) (pa_cons (pv 4) (pa_cons (pv 5) (pa_cons (pv 6) pa_nil))))))))
 (pss_cons (ps_if (pt_cmpR op_notN (pv 7) pe_non (nomark _))
 (pss_one (ps_raise rfl (takes_of rfl rfl rfl rfl) (pmk_oex N.oe_NoHall N.ei_NoHall.ii N.ei_NoHall.ti (w_NoHall___init__ N) (hr.mono (by decide)) N.b_NoHall___init__ .nil pass0 (by rfl) N.g_NoHall (pa_cons (pv 7) pa_nil))))
 pss_nil)
 (PSs.nox (pss_cons (ps_fld (pv 0) (pv 1) rfl)
 (pss_cons (ps_fld (pv 0) (pv 2) rfl)
 (pss_cons (ps_fld (pv 0) (pv 3) rfl)
 (pss_cons (ps_fld (pv 0) (pv 4) rfl)
 (pss_cons (ps_fld (pv 0) (pv 5) rfl)
 (pss_cons (ps_fld (pv 0) (pv 6) rfl)
 (pss_cons (ps_fld (pv 0) (pe_lc (own := [("room", 8)]) (by rfl) sc_Hall___init__.nd (pi_range1 (by rfl) N.m_range (pa_cons (pv 2) pa_nil)) (blkOk_by (own := [("room", 8)]) (N := N_Hall___init__) (sc := defScope s_Hall___init__) (by decide +kernel)) (fun _ _ _ _ _ => (pg_name (i := 8) sc_Hall___init__.nd rfl (.inl rfl))) (fun _ _ _ _ _ => pts_nil) (fun _ _ _ _ _ => pe_dnewK)) rfl)
 (pss_one (ps_for PassesOwn.never rfl (pi_seqK K (pv 4)) (pg_tup rfl (pgs_cons (pg_name (i := 8) sc_Hall___init__.nd rfl (.inl rfl)) (pgs_cons (pg_name (i := 9) sc_Hall___init__.nd rfl (.inl rfl)) (pgs_cons (pg_name (i := 10) sc_Hall___init__.nd rfl (.inl rfl)) pgs_nil))))
 (pss_one (ps_expr (pe_bm PySem.F.plainAttrs_list PySem.F.slot_list_append PySem.F.type_list_append mt_append (pe_dsetd (pe_ix (ix_seqK K) (pe_fldK K (pv 0) rfl) (pv 8) (fun _ _ => rfl)) (pv 9) (pe_lst pa_nil) ⟨rfl, rfl, rfl, rfl⟩) (pa_cons (pv 10) pa_nil)))))))))))))))),
   fun B H0 as0 => ar7 fun self_1 letters_2 rooms_3 start_4 ways_5 kind_6 by_7 => ⟨_, rfl,
 (blkx_seq (δ1 := (fun s_8 => [some (.im self_1), some (.im letters_2), some (.im rooms_3), some (.im start_4), some (.im ways_5), some (.im kind_6), some (.im by_7), some (.im s_8), none, none, none])) (Blk.x (blk_last (blk_set (i := 7) (ev_call (ea_cons (ev_var (i := 1) rfl) (ea_cons (ev_var (i := 2) rfl) (ea_cons (ev_var (i := 3) rfl) (ea_cons (ev_var (i := 4) rfl) (ea_cons (ev_var (i := 5) rfl) (ea_cons (ev_var (i := 6) rfl) ea_nil))))))) fun why_9 =>
 (blk_fin [] (by rfl))))) fun s_8 =>
 (blkx_seq (blkx_ifL (S := Unit) (fun s_10 => [some (.im self_1), some (.im letters_2), some (.im rooms_3), some (.im start_4), some (.im ways_5), some (.im kind_6), some (.im by_7), some (.im s_8), none, none, none]) (et_test (EvW.r (ev_notN (EvW.r (ev_var (i := 7) rfl)))))
 (blkx_raiseO N.oe_NoHall N.no_NoHall (ev_var (i := 7) rfl) (weak_fin [0, 1, 2, 3, 4, 5, 6, 7, 8, 9, 10] (by rfl)))
 (Blk.x (blk_fin [] (by rfl)))) fun s_10 =>
 (Blk.x (blk_fldC N.hf_letters (enf_leaf (ev_var (i := 1) rfl)) (j := 0) rfl
 (blk_fldC N.hf_rooms (enf_leaf (ev_var (i := 2) rfl)) (j := 0) rfl
 (blk_fldC N.hf_start (enf_leaf (ev_var (i := 3) rfl)) (j := 0) rfl
 (blk_fldC N.hf_ways (enf_leaf (ev_var (i := 4) rfl)) (j := 0) rfl
 (blk_fldC N.hf_kind (enf_leaf (ev_var (i := 5) rfl)) (j := 0) rfl
 (blk_fldC N.hf_by (enf_leaf (ev_var (i := 6) rfl)) (j := 0) rfl
 (blk_fldC N.hf_goals (enf_lc (by rfl) (src_range1 (EvW.r (ev_var (i := 2) rfl))) fun room_11 st r q => ⟨_, tg_name (by decide), et_yes, enf_dK⟩) (j := 0) rfl
 (blk_last (blk_seq (blk_forL (S := Unit) [8, 9, 10] [8, 9, 10] (fun s_12 => [some (.im self_1), some (.im letters_2), some (.im rooms_3), some (.im start_4), some (.im ways_5), some (.im kind_6), some (.im by_7), some (.im s_8), none, none, none]) (by rfl) (src_it (ev_var (i := 4) rfl))
 (fun s_12 => pat3 (P := fun δ w => Blk _ _ δ w _ _) (by decide) (by decide) (by decide) fun room_13 letter_14 end_15 => (blk_last (blk_sdApp (ec_ix (ec_fld N.hf_goals (ec_loc (ev_var (i := 0) rfl))) (eq_var (i := 8) rfl)) (eq_var (i := 9) rfl) (j := 10) rfl
 (blk_fin [8, 9, 10] (by rfl)))))) fun s_12 =>
 (blk_fin [0, 1, 2, 3, 4, 5, 6, 7, 8, 9, 10] (by rfl))))))))))))))⟩⟩
noncomputable def m__law_built (things_1 : U) : M U := fnX (seqO (S := U × U × U × U × U × U) (.bind (.ret things_1) fun u_9 => un6 u_9 fun letters_3 rooms_here_4 first_5 ways_here_6 kind_7 by_here_8 => (nxO (letters_3, rooms_here_4, first_5, ways_here_6, kind_7, by_here_8))) fun s_2 => (exB (mkX "Hall" (L7 m_Hall___init__) (consA (.ret s_2.1) (consA (.ret s_2.2.1) (consA (.ret s_2.2.2.1) (consA (.ret s_2.2.2.2.1) (consA (.ret s_2.2.2.2.2.1) (consA (.ret s_2.2.2.2.2.2) nilA))))))) fun u => .ret (.rt u)))
theorem w__law_built {P : Program} {w : World} {K : PySem.W.Frag} {mg : Str → Option Value} {bs : Heap} (N : En w K mg) : FnOk P w K mg bs (L2.CX P w) 9 (He.ga K "_law_built") N.fd__law_built ["_law_things"] (spX ⟨K, He.ga K⟩ (L1 m__law_built)) :=
  fn_okXF N.F__law_built sc__law_built (ar1 fun _ => rfl) fun cv A o s H E hr => ⟨_, (pss_cons (ps_asg (pv 0) (pg_tup rfl (pgs_cons (pg_name (i := 1) sc__law_built.nd rfl (.inl rfl)) (pgs_cons (pg_name (i := 2) sc__law_built.nd rfl (.inl rfl)) (pgs_cons (pg_name (i := 3) sc__law_built.nd rfl (.inl rfl)) (pgs_cons (pg_name (i := 4) sc__law_built.nd rfl (.inl rfl)) (pgs_cons (pg_name (i := 5) sc__law_built.nd rfl (.inl rfl)) (pgs_cons (pg_name (i := 6) sc__law_built.nd rfl (.inl rfl)) pgs_nil))))))))
 (pss_one (ps_ret (pe_makeS N.mk_Hall (w_Hall___init__ N) (hr.mono (by decide)) (by rfl) N.g_Hall N.b_Hall___init__ (fun σ => passAt (takes_of rfl rfl rfl rfl) σ) (pa_cons (pv 1) (pa_cons (pv 2) (pa_cons (pv 3) (pa_cons (pv 4) (pa_cons (pv 5) (pa_cons (pv 6) pa_nil)))))))))),
   fun B H0 as0 => ar1 fun things_1 => ⟨_, rfl,
 (blkx_seq (δ1 := (fun s_2 => [some (.im things_1), some (.im s_2.1), some (.im s_2.2.1), some (.im s_2.2.2.1), some (.im s_2.2.2.2.1), some (.im s_2.2.2.2.2.1), some (.im s_2.2.2.2.2.2)])) (Blk.x (blk_last (blk_tg (vs := [1, 2, 3, 4, 5, 6]) (ev_var (i := 0) rfl) (pat6 (P := fun δ w => Blk _ _ δ w _ _) (by decide) (by decide) (by decide) (by decide) (by decide) (by decide) fun letters_3 rooms_here_4 first_5 ways_here_6 kind_7 by_here_8 =>
 (blk_fin [] (by rfl)))))) fun s_2 =>
 (blkx_ret (evx_make (c := "Hall") (ea_cons (ev_var (i := 1) rfl) (ea_cons (ev_var (i := 2) rfl) (ea_cons (ev_var (i := 3) rfl) (ea_cons (ev_var (i := 4) rfl) (ea_cons (ev_var (i := 5) rfl) (ea_cons (ev_var (i := 6) rfl) ea_nil))))))) (weak_fin [0, 1, 2, 3, 4, 5, 6] (by rfl))))⟩⟩
noncomputable def m__law_refused (things_1 : U) : M U := fnM (.bind (.ret U.non) fun caught_2 => (seqO (S := U) (tryK (tabX [("NoHall", true), ("NoGame", true), ("NoText", true), ("NoSort", true), ("NoName", true), ("Unlike", true), ("TooMany", true), ("NotCertain", true), ("NoLine", true)]) (exB (callX (L1 m__law_built) (consA (.ret things_1) nilA)) fun _ => (nxO caught_2)) fun (c : U) => c) fun s_3 => (seqO (S := Unit) (iteW (testW (.bind (.ret s_3) fun a => .ret (.bl (isNU a)))) (rtO (.ret U.non)) (nxO ())) fun s_4 => (seqO (S := Unit) (iteW (orT (notT (testW (op1 (isKU (tabX [("NoHall", true), ("NoGame", false), ("NoText", false), ("NoSort", false), ("NoName", false), ("Unlike", false), ("TooMany", false), ("NotCertain", false), ("NoLine", false)])) (.ret s_3)))) (notT (testW (op1 (isKU (tabX [("NoHall", true), ("NoGame", true), ("NoText", true), ("NoSort", true), ("NoName", true), ("Unlike", true), ("TooMany", true), ("NotCertain", true), ("NoLine", true)])) (.ret s_3))))) (rtO (.ret (.str "odd"))) (nxO ())) fun s_5 => (seqO (S := Unit) (iteW (testW (op1 (isKU (tabX [("NoHall", false), ("NoGame", true), ("NoText", true), ("NoSort", true), ("NoName", true), ("Unlike", true), ("TooMany", true), ("NotCertain", true), ("NoLine", true)])) (.ret s_3))) (rtO (.ret (.str "odd"))) (nxO ())) fun s_6 => (rtO (op1 (xfU (tabX [("NoHall", true), ("NoGame", true), ("NoText", false), ("NoSort", false), ("NoName", false), ("Unlike", false), ("TooMany", false), ("NotCertain", false), ("NoLine", false)]) "why") (.ret s_3))))))))
theorem w__law_refused {P : Program} {w : World} {K : PySem.W.Frag} {mg : Str → Option Value} {bs : Heap} (N : En w K mg) : FnOk P w K mg bs CX0 10 (He.ga K "_law_refused") N.fd__law_refused ["_law_things"] (spM ⟨K, He.ga K⟩ (L1 m__law_refused)) :=
  fn_okF N.F__law_refused sc__law_refused (ar1 fun _ => rfl) fun cv A o s H E hr => ⟨_, PSs.nox (pss_cons (ps_set (i := 1) sc__law_refused.nd rfl (.inl rfl) pe_non)
 (pss_cons (ps_try_keep (i := 2) (j := 1) rfl rfl rfl sc__law_refused.nd rfl rfl rfl rfl (by decide) (by decide) (by decide) ⟨rfl, by decide, .inl N.g_HallError⟩ takes0 (fun W pn xe tk _ =>
 (pss_one (ps_expr (pe_callS (w__law_built N) (hr.mono (by decide)) (by rfl) N.g__law_built N.F__law_built.kp N.b__law_built (fun σ => passAt tk σ) (pa_cons (pv 0) pa_nil))))))
 (pss_cons (ps_if (pt_cmpR op_isN (pv 1) pe_non (nomark _))
 (pss_one (ps_ret pe_non))
 pss_nil)
 (pss_cons (ps_if (PW.pt (pw_or (pt_not (pt_val (pe_callB (call_isK (K := K)) (by rfl) N.m_isinstance (by decide +kernel) (pa_cons (pv 1) (pa_cons (pe_glob (v := .ref (He.ga K "NoHall")) rfl N.g_NoHall rfl) pa_nil))))) (pw_or1 (pt_not (pt_val (pe_callB (call_isK (K := K)) (by rfl) N.m_isinstance (by decide +kernel) (pa_cons (pv 1) (pa_cons (pe_bltn (v := .ty "ValueError") (by rfl) N.m_ValueError (by decide +kernel) rfl) pa_nil))))))))
 (pss_one (ps_ret pe_str))
 pss_nil)
 (pss_cons (ps_if (pt_val (pe_callB (call_isKT (K := K)) (by rfl) N.m_isinstance (by decide +kernel) (pa_cons (pv 1) (pa_cons (pe_tup (pa_cons (pe_glob (v := .ref (He.ga K "NoGame")) rfl N.g_NoGame rfl) (pa_cons (pe_glob (v := .ref (He.ga K "NoLine")) rfl N.g_NoLine rfl) (pa_cons (pe_glob (v := .ref (He.ga K "NoName")) rfl N.g_NoName rfl) (pa_cons (pe_glob (v := .ref (He.ga K "NoSort")) rfl N.g_NoSort rfl) (pa_cons (pe_glob (v := .ref (He.ga K "NoText")) rfl N.g_NoText rfl) (pa_cons (pe_glob (v := .ref (He.ga K "NotCertain")) rfl N.g_NotCertain rfl) (pa_cons (pe_glob (v := .ref (He.ga K "TooMany")) rfl N.g_TooMany rfl) (pa_cons (pe_glob (v := .ref (He.ga K "Unlike")) rfl N.g_Unlike rfl) pa_nil))))))))) pa_nil))))
 (pss_one (ps_ret pe_str))
 pss_nil)
 (pss_one (ps_ret (pe_xfK (pv 1))))))))),
   fun B H0 as0 => ar1 fun things_1 => ⟨_, rfl,
 (blk_set (i := 1) ev_non fun caught_2 =>
 (blk_seq (δ1 := (fun s_3 => [some (.im things_1), some (.im s_3), none])) (blk_tryK (S := U) (δx := [some (.im things_1), some (.im caught_2), none]) (δn := (fun s_3 => [some (.im things_1), some (.im s_3), none])) (tab := (tabX [("NoHall", true), ("NoGame", true), ("NoText", true), ("NoSort", true), ("NoName", true), ("Unlike", true), ("TooMany", true), ("NotCertain", true), ("NoLine", true)])) (sx := fun (c : U) => c) (fun W =>
 (blkx_last (blkx_expr (evx_call (ea_cons (ev_var (i := 0) rfl) ea_nil)) (weak_fin [] (by rfl))
 (Blk.x (blk_fin [2] (by rfl)))))) (fun c => weak_fin [2] (by rfl)) (fun c e => tab_all (P := fun c b => b = true → PySem.W.exmOne _ (.ref (He.ga K c)) (.ref (He.ga K "HallError")) = some true) (allC (fun _ => N.xm_NoHall_HallError) (allC (fun _ => N.xm_NoGame_HallError) (allC (fun _ => N.xm_NoText_HallError) (allC (fun _ => N.xm_NoSort_HallError) (allC (fun _ => N.xm_NoName_HallError) (allC (fun _ => N.xm_Unlike_HallError) (allC (fun _ => N.xm_TooMany_HallError) (allC (fun _ => N.xm_NotCertain_HallError) (allC (fun _ => N.xm_NoLine_HallError) allN))))))))) c _ e rfl)) fun s_3 =>
 (blk_seq (blk_ifL (S := Unit) (fun s_4 => [some (.im things_1), some (.im s_3), none]) (et_test (EvW.r (ev_isN (EvW.r (ev_var (i := 1) rfl)))))
 (blk_ret (EvW.f ev_non))
 (blk_fin [] (by rfl))) fun s_4 =>
 (blk_seq (blk_ifL (S := Unit) (fun s_5 => [some (.im things_1), some (.im s_3), none]) (et_or (et_not (et_B (EvW.r (ev_isK (tab := (tabX [("NoHall", true), ("NoGame", false), ("NoText", false), ("NoSort", false), ("NoName", false), ("Unlike", false), ("TooMany", false), ("NotCertain", false), ("NoLine", false)])) (c0 := .ref (He.ga K "NoHall")) (cv := .ref (He.ga K "NoHall")) (tab_all (allC ⟨N.xi_NoHall, N.kit_NoHall_NoHall⟩ (allC ⟨N.xi_NoGame, N.kit_NoGame_NoHall⟩ (allC ⟨N.xi_NoText, N.kit_NoText_NoHall⟩ (allC ⟨N.xi_NoSort, N.kit_NoSort_NoHall⟩ (allC ⟨N.xi_NoName, N.kit_NoName_NoHall⟩ (allC ⟨N.xi_Unlike, N.kit_Unlike_NoHall⟩ (allC ⟨N.xi_TooMany, N.kit_TooMany_NoHall⟩ (allC ⟨N.xi_NotCertain, N.kit_NotCertain_NoHall⟩ (allC ⟨N.xi_NoLine, N.kit_NoLine_NoHall⟩ allN)))))))))) clK_ref (EvW.r (ev_var (i := 1) rfl)))))) (et_not (et_B (EvW.r (ev_isK (tab := (tabX [("NoHall", true), ("NoGame", true), ("NoText", true), ("NoSort", true), ("NoName", true), ("Unlike", true), ("TooMany", true), ("NotCertain", true), ("NoLine", true)])) (c0 := .ty "ValueError") (cv := .type "ValueError") (tab_all (allC ⟨N.xi_NoHall, N.kit_NoHall_ValueError⟩ (allC ⟨N.xi_NoGame, N.kit_NoGame_ValueError⟩ (allC ⟨N.xi_NoText, N.kit_NoText_ValueError⟩ (allC ⟨N.xi_NoSort, N.kit_NoSort_ValueError⟩ (allC ⟨N.xi_NoName, N.kit_NoName_ValueError⟩ (allC ⟨N.xi_Unlike, N.kit_Unlike_ValueError⟩ (allC ⟨N.xi_TooMany, N.kit_TooMany_ValueError⟩ (allC ⟨N.xi_NotCertain, N.kit_NotCertain_ValueError⟩ (allC ⟨N.xi_NoLine, N.kit_NoLine_ValueError⟩ allN)))))))))) clK_ty (EvW.r (ev_var (i := 1) rfl)))))))
 (blk_ret (EvW.f ev_str))
 (blk_fin [] (by rfl))) fun s_5 =>
 (blk_seq (blk_ifL (S := Unit) (fun s_6 => [some (.im things_1), some (.im s_3), none]) (et_B (EvW.r (ev_isKT (tab := (tabX [("NoHall", false), ("NoGame", true), ("NoText", true), ("NoSort", true), ("NoName", true), ("Unlike", true), ("TooMany", true), ("NotCertain", true), ("NoLine", true)])) (cs := [.ref (He.ga K "NoGame"), .ref (He.ga K "NoLine"), .ref (He.ga K "NoName"), .ref (He.ga K "NoSort"), .ref (He.ga K "NoText"), .ref (He.ga K "NotCertain"), .ref (He.ga K "TooMany"), .ref (He.ga K "Unlike")]) (cvs := [.ref (He.ga K "NoGame"), .ref (He.ga K "NoLine"), .ref (He.ga K "NoName"), .ref (He.ga K "NoSort"), .ref (He.ga K "NoText"), .ref (He.ga K "NotCertain"), .ref (He.ga K "TooMany"), .ref (He.ga K "Unlike")]) (tab_all (allC ⟨N.xi_NoHall, N.kitA_NoHall_0⟩ (allC ⟨N.xi_NoGame, N.kitA_NoGame_0⟩ (allC ⟨N.xi_NoText, N.kitA_NoText_0⟩ (allC ⟨N.xi_NoSort, N.kitA_NoSort_0⟩ (allC ⟨N.xi_NoName, N.kitA_NoName_0⟩ (allC ⟨N.xi_Unlike, N.kitA_Unlike_0⟩ (allC ⟨N.xi_TooMany, N.kitA_TooMany_0⟩ (allC ⟨N.xi_NotCertain, N.kitA_NotCertain_0⟩ (allC ⟨N.xi_NoLine, N.kitA_NoLine_0⟩ allN)))))))))) ⟨clK_ref, ⟨clK_ref, ⟨clK_ref, ⟨clK_ref, ⟨clK_ref, ⟨clK_ref, ⟨clK_ref, ⟨clK_ref, trivial⟩⟩⟩⟩⟩⟩⟩⟩ (show 8 ≤ sizeLine by decide) (EvW.r (ev_var (i := 1) rfl)))))
 (blk_ret (EvW.f ev_str))
 (blk_fin [] (by rfl))) fun s_6 =>
 (blk_ret (EvW.f (ev_xf (tab := (tabX [("NoHall", true), ("NoGame", true), ("NoText", false), ("NoSort", false), ("NoName", false), ("Unlike", false), ("TooMany", false), ("NotCertain", false), ("NoLine", false)])) (tab_all (P := fun c b => b = true → ExcC _ (He.ga _ c) ∧ PySem.W.findIn _ (.ref (He.ga _ c)) "why" = some none) (allC (fun _ => ⟨N.xi_NoHall, N.no_NoHall⟩) (allC (fun _ => ⟨N.xi_NoGame, N.no_NoGame⟩) (allC (fun z => nomatch z) (allC (fun z => nomatch z) (allC (fun z => nomatch z) (allC (fun z => nomatch z) (allC (fun z => nomatch z) (allC (fun z => nomatch z) (allC (fun z => nomatch z) allN)))))))))) (EvW.r (ev_var (i := 1) rfl))))))))))⟩⟩
noncomputable def m__law_are_rising (some_1 : U) : M U := fnM (rtO (op1 allU (lcW (zipW (.ret some_1) (slW (.ret some_1) (someP (.ret (.int 1))) noP)) (fun e_4 => un2 e_4 fun one_2 other_3 => (.ret true)) fun e_4 => un2 e_4 fun one_2 other_3 => (op2 ltU (.ret one_2) (.ret other_3)))))
theorem w__law_are_rising {P : Program} {w : World} {K : PySem.W.Frag} {mg : Str → Option Value} {bs : Heap} (N : En w K mg) : FnOk P w K mg bs CX0 1 (He.ga K "_law_are_rising") N.fd__law_are_rising ["_law_some"] (spM ⟨K, He.ga K⟩ (L1 m__law_are_rising)) :=
  fn_okF N.F__law_are_rising sc__law_are_rising (ar1 fun _ => rfl) fun cv A o s H E hr => ⟨_, PSs.nox (pss_one (ps_ret (pe_callB (cr_allK K rfl) (by rfl) N.m_all (by decide +kernel) (pa_cons (pe_lc (own := [("_law_one", 1), ("_law_other", 2)]) (by rfl) sc__law_are_rising.nd (pi_zipAK K (by rfl) N.m_zip (pa_cons (pv 0) (pa_cons (pe_slice (sl_seqK K) (pv 0) (po_some pe_int) po_none) pa_nil))) (blkOk_by (own := [("_law_one", 1), ("_law_other", 2)]) (N := N__law_are_rising) (sc := defScope s__law_are_rising) (by decide +kernel)) (fun _ _ _ _ _ => (pg_tupK K (n := 2) rfl (pgs_cons (pg_name (i := 1) sc__law_are_rising.nd rfl (.inl rfl)) (pgs_cons (pg_name (i := 2) sc__law_are_rising.nd rfl (.inl rfl)) pgs_nil)))) (fun _ _ _ _ _ => pts_nil) (fun _ _ _ _ _ => (pe_cmpR (op_ltK K hr.units) (pv 1) (pv 2) (nomark _)))) pa_nil)))),
   fun B H0 as0 => ar1 fun some_1 => ⟨_, rfl,
 (blk_ret (EvW.f (ev_cb1 ok_all (EvW.r (EvN.ew (en_lc (by rfl) (src_zip (ev_var (i := 0) rfl) (ev_sl (EvW.r (ev_var (i := 0) rfl)) (eo_some (EvW.r ev_int)) eo_none)) (lcp2 (i := 1) (j := 2) (vs := [1, 2]) (by decide) (by decide) fun one_2 other_3 => ⟨et_yes, (ev_op ok_lt (EvW.r (ev_var (i := 1) rfl)) (EvW.r (ev_var (i := 2) rfl)))⟩)))))))⟩⟩
noncomputable def m__law_are_ways (letters_1 rooms_here_2 thing_3 : U) : M U := fnM (seqO (S := Unit) (iteW (notT (testW (op1 (isiU · "tuple") (.ret thing_3)))) (rtO (.ret (U.bl false))) (nxO ())) fun s_4 => (seqO (S := Unit) (.bind (itW (.ret thing_3)) fun us => forO (fun way_6 s_5 => (seqO (S := Unit) (iteW (orT (notT (testW (op1 (isiU · "tuple") (.ret way_6)))) (orT (testW (op2 neU (op1 lenU (.ret way_6)) (.ret (.int 3)))) (notT (testW (callM (L3 m__law_whole) (consA (op2 ixU (.ret way_6) (.ret (.int 1))) (consA (.ret (.int 0)) (consA (.ret letters_1) nilA)))))))) (rtO (.ret (U.bl false))) (nxO ())) fun s_7 => (iteW (orT (notT (testW (callM (L3 m__law_whole) (consA (op2 ixU (.ret way_6) (.ret (.int 0))) (consA (.ret (.int 0)) (consA (.ret rooms_here_2) nilA)))))) (notT (testW (callM (L3 m__law_whole) (consA (op2 ixU (.ret way_6) (.ret (.int 2))) (consA (.ret (.int 0)) (consA (.ret rooms_here_2) nilA))))))) (rtO (.ret (U.bl false))) (nxO ())))) us ()) fun s_5 => (rtO (callM (L1 m__law_are_rising) (consA (.ret thing_3) nilA)))))
theorem w__law_are_ways {P : Program} {w : World} {K : PySem.W.Frag} {mg : Str → Option Value} {bs : Heap} (N : En w K mg) : FnOk P w K mg bs CX0 2 (He.ga K "_law_are_ways") N.fd__law_are_ways ["_law_letters", "_law_rooms_here", "_law_thing"] (spM ⟨K, He.ga K⟩ (L3 m__law_are_ways)) :=
  fn_okF N.F__law_are_ways sc__law_are_ways (ar3 fun _ _ _ => rfl) fun cv A o s H E hr => ⟨_, PSs.nox (pss_cons (ps_if (pt_not (pt_val (pe_callB (call_isiK K) (by rfl) N.m_isinstance (by decide +kernel) (pa_cons (pv 2) (pa_cons (pe_bltn (v := .ty "tuple") (by rfl) N.m_tuple (by decide +kernel) rfl) pa_nil)))))
 (pss_one (ps_ret pe_bl))
 pss_nil)
 (pss_cons (ps_for PassesOwn.never rfl (pi_seqK K (pv 2)) (pg_name (i := 3) sc__law_are_ways.nd rfl (.inl rfl))
 (pss_cons (ps_if (PW.pt (pw_or (pt_not (pt_val (pe_callB (call_isiK K) (by rfl) N.m_isinstance (by decide +kernel) (pa_cons (pv 3) (pa_cons (pe_bltn (v := .ty "tuple") (by rfl) N.m_tuple (by decide +kernel) rfl) pa_nil))))) (pw_or (pt_cmpR (op_neK K hr.units) (pe_callB (call_lenK K) (by rfl) N.m_len PySem.boot_len (pa_cons (pv 3) pa_nil)) pe_int (nomark _)) (pw_or1 (pt_not (pt_val (pe_call (w__law_whole N) (hr.mono (by decide)) (by rfl) N.g__law_whole N.F__law_whole.kp N.b__law_whole .nil pass0 (pa_cons (pe_ix (ix_seqK K) (pv 3) pe_int (fun _ _ => rfl)) (pa_cons pe_int (pa_cons (pv 0) pa_nil))))))))))
 (pss_one (ps_ret pe_bl))
 pss_nil)
 (pss_one (ps_if (PW.pt (pw_or (pt_not (pt_val (pe_call (w__law_whole N) (hr.mono (by decide)) (by rfl) N.g__law_whole N.F__law_whole.kp N.b__law_whole .nil pass0 (pa_cons (pe_ix (ix_seqK K) (pv 3) pe_int (fun _ _ => rfl)) (pa_cons pe_int (pa_cons (pv 1) pa_nil)))))) (pw_or1 (pt_not (pt_val (pe_call (w__law_whole N) (hr.mono (by decide)) (by rfl) N.g__law_whole N.F__law_whole.kp N.b__law_whole .nil pass0 (pa_cons (pe_ix (ix_seqK K) (pv 3) pe_int (fun _ _ => rfl)) (pa_cons pe_int (pa_cons (pv 1) pa_nil)))))))))
 (pss_one (ps_ret pe_bl))
 pss_nil))))
 (pss_one (ps_ret (pe_call (w__law_are_rising N) (hr.mono (by decide)) (by rfl) N.g__law_are_rising N.F__law_are_rising.kp N.b__law_are_rising .nil pass0 (pa_cons (pv 2) pa_nil)))))),
   fun B H0 as0 => ar3 fun letters_1 rooms_here_2 thing_3 => ⟨_, rfl,
 (blk_seq (blk_ifL (S := Unit) (fun s_4 => [some (.im letters_1), some (.im rooms_here_2), some (.im thing_3), none]) (et_not (et_B (EvW.r (ev_isi (EvW.r (ev_var (i := 2) rfl))))))
 (blk_ret (EvW.f ev_bl))
 (blk_fin [] (by rfl))) fun s_4 =>
 (blk_seq (blk_forL (S := Unit) [3] [3] (fun s_5 => [some (.im letters_1), some (.im rooms_here_2), some (.im thing_3), none]) (by rfl) (src_it (ev_var (i := 2) rfl))
 (fun s_5 way_6 st r q => ⟨_, tg_name (by decide), (blk_seq (blk_ifL (S := Unit) (fun s_7 => [some (.im letters_1), some (.im rooms_here_2), some (.im thing_3), some (.im way_6)]) (et_or (et_not (et_B (EvW.r (ev_isi (EvW.r (ev_var (i := 3) rfl)))))) (et_or (et_test (EvW.r (ev_op ok_ne (EvW.r (ev_cb1 ok_len (EvW.r (ev_var (i := 3) rfl)))) (EvW.r ev_int)))) (et_not (et_B (EvW.r (ev_call (ea_cons (ev_op ok_ix (EvW.r (ev_var (i := 3) rfl)) (EvW.r ev_int)) (ea_cons ev_int (ea_cons (ev_var (i := 0) rfl) ea_nil)))))))))
 (blk_ret (EvW.f ev_bl))
 (blk_fin [] (by rfl))) fun s_7 =>
 (blk_if (et_or (et_not (et_B (EvW.r (ev_call (ea_cons (ev_op ok_ix (EvW.r (ev_var (i := 3) rfl)) (EvW.r ev_int)) (ea_cons ev_int (ea_cons (ev_var (i := 1) rfl) ea_nil))))))) (et_not (et_B (EvW.r (ev_call (ea_cons (ev_op ok_ix (EvW.r (ev_var (i := 3) rfl)) (EvW.r ev_int)) (ea_cons ev_int (ea_cons (ev_var (i := 1) rfl) ea_nil))))))))
 (blk_ret (EvW.f ev_bl))
 (blk_fin [3] (by rfl))))⟩)) fun s_5 =>
 (blk_ret (EvW.f (ev_call (ea_cons (ev_var (i := 2) rfl) ea_nil))))))⟩⟩
noncomputable def m__law_are_rooms (rooms_here_1 thing_2 : U) : M U := fnM (rtO (andW (op1 (isiU · "tuple") (.ret thing_2)) (andW (op1 allU (lcW (itW (.ret thing_2)) (fun one_3 => (.ret true)) fun one_3 => (callM (L3 m__law_whole) (consA (.ret one_3) (consA (.ret (.int 0)) (consA (.ret rooms_here_1) nilA)))))) (callM (L1 m__law_are_rising) (consA (.ret thing_2) nilA)))))
theorem w__law_are_rooms {P : Program} {w : World} {K : PySem.W.Frag} {mg : Str → Option Value} {bs : Heap} (N : En w K mg) : FnOk P w K mg bs CX0 2 (He.ga K "_law_are_rooms") N.fd__law_are_rooms ["_law_rooms_here", "_law_thing"] (spM ⟨K, He.ga K⟩ (L2' m__law_are_rooms)) :=
  fn_okF N.F__law_are_rooms sc__law_are_rooms (ar2 fun _ _ => rfl) fun cv A o s H E hr => ⟨_, PSs.nox (pss_one (ps_ret (pe_and (pe_callB (call_isiK K) (by rfl) N.m_isinstance (by decide +kernel) (pa_cons (pv 1) (pa_cons (pe_bltn (v := .ty "tuple") (by rfl) N.m_tuple (by decide +kernel) rfl) pa_nil))) (pe_and (pe_callB (cr_allK K rfl) (by rfl) N.m_all (by decide +kernel) (pa_cons (pe_lc (own := [("_law_one", 2)]) (by rfl) sc__law_are_rooms.nd (pi_seqK K (pv 1)) (blkOk_by (own := [("_law_one", 2)]) (N := N__law_are_rooms) (sc := defScope s__law_are_rooms) (by decide +kernel)) (fun _ _ _ _ _ => (pg_name (i := 2) sc__law_are_rooms.nd rfl (.inl rfl))) (fun _ _ _ _ _ => pts_nil) (fun _ _ _ _ _ => (pe_call (w__law_whole N) (hr.mono (by decide)) (by rfl) N.g__law_whole N.F__law_whole.kp N.b__law_whole .nil pass0 (pa_cons (pv 2) (pa_cons pe_int (pa_cons (pv 0) pa_nil)))))) pa_nil)) (pe_one (pe_call (w__law_are_rising N) (hr.mono (by decide)) (by rfl) N.g__law_are_rising N.F__law_are_rising.kp N.b__law_are_rising .nil pass0 (pa_cons (pv 1) pa_nil))))))),
   fun B H0 as0 => ar2 fun rooms_here_1 thing_2 => ⟨_, rfl,
 (blk_ret (EvW.f (ev_and (EvW.r (ev_isi (EvW.r (ev_var (i := 1) rfl)))) (ev_and (EvW.r (ev_cb1 ok_all (EvW.r (EvN.ew (en_lc (by rfl) (src_it (ev_var (i := 1) rfl)) fun one_3 st r q => ⟨_, tg_name (by decide), et_yes, (ev_call (ea_cons (ev_var (i := 2) rfl) (ea_cons ev_int (ea_cons (ev_var (i := 0) rfl) ea_nil))))⟩))))) (ev_call (ea_cons (ev_var (i := 1) rfl) ea_nil))))))⟩⟩
noncomputable def m__law_is_by (kind_1 rooms_here_2 thing_3 : U) : M U := fnM (seqO (S := Unit) (iteW (testW (op2 inSU (.ret kind_1) (tupW (consA (.ret (.str "again")) (consA (.ret (.str "at last")) nilA))))) (rtO (callM (L2' m__law_are_rooms) (consA (.ret rooms_here_2) (consA (.ret thing_3) nilA)))) (nxO ())) fun s_4 => (seqO (S := Unit) (iteW (notT (testW (op1 (isiU · "tuple") (.ret thing_3)))) (rtO (.ret (U.bl false))) (nxO ())) fun s_5 => (seqO (S := Unit) (iteW (testW (op2 eqU (.ret kind_1) (.ret (.str "ranks")))) (rtO (andW (op2 eqU (op1 lenU (.ret thing_3)) (.ret rooms_here_2)) (op1 allU (lcW (itW (.ret thing_3)) (fun one_7 => (.ret true)) fun one_7 => (callM (L3 m__law_whole) (consA (.ret one_7) (consA (.ret (.int 0)) (consA (op2 powU (.ret (.int 10)) (.ret (.int 9))) nilA)))))))) (nxO ())) fun s_6 => (seqO (S := Unit) (.bind (itW (.ret thing_3)) fun us => forO (fun pair_10 s_9 => (seqO (S := Unit) (iteW (orT (notT (testW (op1 (isiU · "tuple") (.ret pair_10)))) (testW (op2 neU (op1 lenU (.ret pair_10)) (.ret (.int 2))))) (rtO (.ret (U.bl false))) (nxO ())) fun s_11 => (iteW (orT (notT (testW (callM (L2' m__law_are_rooms) (consA (.ret rooms_here_2) (consA (op2 ixU (.ret pair_10) (.ret (.int 0))) nilA))))) (notT (testW (callM (L2' m__law_are_rooms) (consA (.ret rooms_here_2) (consA (op2 ixU (.ret pair_10) (.ret (.int 1))) nilA)))))) (rtO (.ret (U.bl false))) (nxO ())))) us ()) fun s_9 => (rtO (.ret (U.bl true)))))))
theorem w__law_is_by {P : Program} {w : World} {K : PySem.W.Frag} {mg : Str → Option Value} {bs : Heap} (N : En w K mg) : FnOk P w K mg bs CX0 3 (He.ga K "_law_is_by") N.fd__law_is_by ["_law_kind", "_law_rooms_here", "_law_thing"] (spM ⟨K, He.ga K⟩ (L3 m__law_is_by)) :=
  fn_okF N.F__law_is_by sc__law_is_by (ar3 fun _ _ _ => rfl) fun cv A o s H E hr => ⟨_, PSs.nox (pss_cons (ps_if (pt_cmpR (op_inAK K (rm66 hr)) (pv 0) (pe_tup (pa_cons pe_str (pa_cons pe_str pa_nil))) (by rfl))
 (pss_one (ps_ret (pe_call (w__law_are_rooms N) (hr.mono (by decide)) (by rfl) N.g__law_are_rooms N.F__law_are_rooms.kp N.b__law_are_rooms .nil pass0 (pa_cons (pv 1) (pa_cons (pv 2) pa_nil)))))
 pss_nil)
 (pss_cons (ps_if (pt_not (pt_val (pe_callB (call_isiK K) (by rfl) N.m_isinstance (by decide +kernel) (pa_cons (pv 2) (pa_cons (pe_bltn (v := .ty "tuple") (by rfl) N.m_tuple (by decide +kernel) rfl) pa_nil)))))
 (pss_one (ps_ret pe_bl))
 pss_nil)
 (pss_cons (ps_if (pt_cmpR (op_eqK K hr.units) (pv 0) pe_str (nomark _))
 (pss_one (ps_ret (pe_and (pe_cmpR (op_eqK K hr.units) (pe_callB (call_lenK K) (by rfl) N.m_len PySem.boot_len (pa_cons (pv 2) pa_nil)) (pv 1) (nomark _)) (pe_one (pe_callB (cr_allK K rfl) (by rfl) N.m_all (by decide +kernel) (pa_cons (pe_lc (own := [("_law_one", 4)]) (by rfl) sc__law_is_by.nd (pi_seqK K (pv 2)) (blkOk_by (own := [("_law_one", 4)]) (N := N__law_is_by) (sc := defScope s__law_is_by) (by decide +kernel)) (fun _ _ _ _ _ => (pg_name (i := 4) sc__law_is_by.nd rfl (.inl rfl))) (fun _ _ _ _ _ => pts_nil) (fun _ _ _ _ _ => (pe_call (w__law_whole N) (hr.mono (by decide)) (by rfl) N.g__law_whole N.F__law_whole.kp N.b__law_whole .nil pass0 (pa_cons (pv 4) (pa_cons pe_int (pa_cons (pe_op op_pow pe_int pe_int) pa_nil)))))) pa_nil))))))
 pss_nil)
 (pss_cons (ps_for PassesOwn.never rfl (pi_seqK K (pv 2)) (pg_name (i := 3) sc__law_is_by.nd rfl (.inl rfl))
 (pss_cons (ps_if (PW.pt (pw_or (pt_not (pt_val (pe_callB (call_isiK K) (by rfl) N.m_isinstance (by decide +kernel) (pa_cons (pv 3) (pa_cons (pe_bltn (v := .ty "tuple") (by rfl) N.m_tuple (by decide +kernel) rfl) pa_nil))))) (pw_or1 (pt_cmpR (op_neK K hr.units) (pe_callB (call_lenK K) (by rfl) N.m_len PySem.boot_len (pa_cons (pv 3) pa_nil)) pe_int (nomark _)))))
 (pss_one (ps_ret pe_bl))
 pss_nil)
 (pss_one (ps_if (PW.pt (pw_or (pt_not (pt_val (pe_call (w__law_are_rooms N) (hr.mono (by decide)) (by rfl) N.g__law_are_rooms N.F__law_are_rooms.kp N.b__law_are_rooms .nil pass0 (pa_cons (pv 1) (pa_cons (pe_ix (ix_seqK K) (pv 3) pe_int (fun _ _ => rfl)) pa_nil))))) (pw_or1 (pt_not (pt_val (pe_call (w__law_are_rooms N) (hr.mono (by decide)) (by rfl) N.g__law_are_rooms N.F__law_are_rooms.kp N.b__law_are_rooms .nil pass0 (pa_cons (pv 1) (pa_cons (pe_ix (ix_seqK K) (pv 3) pe_int (fun _ _ => rfl)) pa_nil))))))))
 (pss_one (ps_ret pe_bl))
 pss_nil))))
 (pss_one (ps_ret pe_bl)))))),
   fun B H0 as0 => ar3 fun kind_1 rooms_here_2 thing_3 => ⟨_, rfl,
 (blk_seq (blk_ifL (S := Unit) (fun s_4 => [some (.im kind_1), some (.im rooms_here_2), some (.im thing_3), none, none]) (et_test (EvW.r (ev_op ok_in (EvW.r (ev_var (i := 0) rfl)) (EvW.r (ev_tup (ea_cons ev_str (ea_cons ev_str ea_nil)))))))
 (blk_ret (EvW.f (ev_call (ea_cons (ev_var (i := 1) rfl) (ea_cons (ev_var (i := 2) rfl) ea_nil)))))
 (blk_fin [] (by rfl))) fun s_4 =>
 (blk_seq (blk_ifL (S := Unit) (fun s_5 => [some (.im kind_1), some (.im rooms_here_2), some (.im thing_3), none, none]) (et_not (et_B (EvW.r (ev_isi (EvW.r (ev_var (i := 2) rfl))))))
 (blk_ret (EvW.f ev_bl))
 (blk_fin [] (by rfl))) fun s_5 =>
 (blk_seq (blk_ifL (S := Unit) (fun s_6 => [some (.im kind_1), some (.im rooms_here_2), some (.im thing_3), none, none]) (et_test (EvW.r (ev_op ok_eq (EvW.r (ev_var (i := 0) rfl)) (EvW.r ev_str))))
 (blk_ret (EvW.f (ev_and (EvW.r (ev_op ok_eq (EvW.r (ev_cb1 ok_len (EvW.r (ev_var (i := 2) rfl)))) (EvW.r (ev_var (i := 1) rfl)))) (ev_cb1 ok_all (EvW.r (EvN.ew (en_lc (by rfl) (src_it (ev_var (i := 2) rfl)) fun one_7 st r q => ⟨_, tg_name (by decide), et_yes, (ev_call (ea_cons (ev_var (i := 4) rfl) (ea_cons ev_int (ea_cons (ev_op ok_pow (EvW.r ev_int) (EvW.r ev_int)) ea_nil))))⟩)))))))
 (blk_fin [] (by rfl))) fun s_6 =>
 (blk_seq (blk_forL (S := Unit) [3] [3] (fun s_9 => [some (.im kind_1), some (.im rooms_here_2), some (.im thing_3), none, none]) (by rfl) (src_it (ev_var (i := 2) rfl))
 (fun s_9 pair_10 st r q => ⟨_, tg_name (by decide), (blk_seq (blk_ifL (S := Unit) (fun s_11 => [some (.im kind_1), some (.im rooms_here_2), some (.im thing_3), some (.im pair_10), none]) (et_or (et_not (et_B (EvW.r (ev_isi (EvW.r (ev_var (i := 3) rfl)))))) (et_test (EvW.r (ev_op ok_ne (EvW.r (ev_cb1 ok_len (EvW.r (ev_var (i := 3) rfl)))) (EvW.r ev_int)))))
 (blk_ret (EvW.f ev_bl))
 (blk_fin [] (by rfl))) fun s_11 =>
 (blk_if (et_or (et_not (et_B (EvW.r (ev_call (ea_cons (ev_var (i := 1) rfl) (ea_cons (ev_op ok_ix (EvW.r (ev_var (i := 3) rfl)) (EvW.r ev_int)) ea_nil)))))) (et_not (et_B (EvW.r (ev_call (ea_cons (ev_var (i := 1) rfl) (ea_cons (ev_op ok_ix (EvW.r (ev_var (i := 3) rfl)) (EvW.r ev_int)) ea_nil)))))))
 (blk_ret (EvW.f ev_bl))
 (blk_fin [3] (by rfl))))⟩)) fun s_9 =>
 (blk_ret (EvW.f ev_bl))))))⟩⟩
noncomputable def m__law_due (things_1 : U) : M U := fnM (.bind (.ret things_1) fun u_13 => un6 u_13 fun letters_2 rooms_here_3 first_4 ways_here_5 kind_6 by_here_7 => (seqO (S := Unit) (iteW (notT (testW (callM (L3 m__law_whole) (consA (.ret letters_2) (consA (.ret (.int 1)) (consA (.ret (.int 5)) nilA)))))) (rtO (.ret (.str "letters"))) (nxO ())) fun s_8 => (seqO (S := Unit) (iteW (notT (testW (callM (L3 m__law_whole) (consA (.ret rooms_here_3) (consA (.ret (.int 1)) (consA (op2 powU (.ret (.int 10)) (.ret (.int 9))) nilA)))))) (rtO (.ret (.str "rooms"))) (nxO ())) fun s_9 => (seqO (S := Unit) (iteW (notT (testW (callM (L3 m__law_whole) (consA (.ret first_4) (consA (.ret (.int 0)) (consA (.ret rooms_here_3) nilA)))))) (rtO (.ret (.str "start"))) (nxO ())) fun s_10 => (seqO (S := Unit) (iteW (notT (testW (callM (L3 m__law_are_ways) (consA (.ret letters_2) (consA (.ret rooms_here_3) (consA (.ret ways_here_5) nilA)))))) (rtO (.ret (.str "ways"))) (nxO ())) fun s_11 => (seqO (S := Unit) (iteW (orT (notT (testW (op1 (isiU · "str") (.ret kind_6)))) (testW (op2 notInSU (.ret kind_6) (tupW (consA (.ret (.str "again")) (consA (.ret (.str "at last")) (consA (.ret (.str "pairs")) (consA (.ret (.str "ranks")) nilA)))))))) (rtO (.ret (.str "kind"))) (nxO ())) fun s_12 => (rtO (iteW (testW (callM (L3 m__law_is_by) (consA (.ret kind_6) (consA (.ret rooms_here_3) (consA (.ret by_here_7) nilA))))) (.ret U.non) (.ret (.str "by"))))))))))
theorem w__law_due {P : Program} {w : World} {K : PySem.W.Frag} {mg : Str → Option Value} {bs : Heap} (N : En w K mg) : FnOk P w K mg bs CX0 4 (He.ga K "_law_due") N.fd__law_due ["_law_things"] (spM ⟨K, He.ga K⟩ (L1 m__law_due)) :=
  fn_okF N.F__law_due sc__law_due (ar1 fun _ => rfl) fun cv A o s H E hr => ⟨_, PSs.nox (pss_cons (ps_asg (pv 0) (pg_tup rfl (pgs_cons (pg_name (i := 1) sc__law_due.nd rfl (.inl rfl)) (pgs_cons (pg_name (i := 2) sc__law_due.nd rfl (.inl rfl)) (pgs_cons (pg_name (i := 3) sc__law_due.nd rfl (.inl rfl)) (pgs_cons (pg_name (i := 4) sc__law_due.nd rfl (.inl rfl)) (pgs_cons (pg_name (i := 5) sc__law_due.nd rfl (.inl rfl)) (pgs_cons (pg_name (i := 6) sc__law_due.nd rfl (.inl rfl)) pgs_nil))))))))
 (pss_cons (ps_if (pt_not (pt_val (pe_call (w__law_whole N) (hr.mono (by decide)) (by rfl) N.g__law_whole N.F__law_whole.kp N.b__law_whole .nil pass0 (pa_cons (pv 1) (pa_cons pe_int (pa_cons pe_int pa_nil))))))
 (pss_one (ps_ret pe_str))
 pss_nil)
 (pss_cons (ps_if (pt_not (pt_val (pe_call (w__law_whole N) (hr.mono (by decide)) (by rfl) N.g__law_whole N.F__law_whole.kp N.b__law_whole .nil pass0 (pa_cons (pv 2) (pa_cons pe_int (pa_cons (pe_op op_pow pe_int pe_int) pa_nil))))))
 (pss_one (ps_ret pe_str))
 pss_nil)
 (pss_cons (ps_if (pt_not (pt_val (pe_call (w__law_whole N) (hr.mono (by decide)) (by rfl) N.g__law_whole N.F__law_whole.kp N.b__law_whole .nil pass0 (pa_cons (pv 3) (pa_cons pe_int (pa_cons (pv 2) pa_nil))))))
 (pss_one (ps_ret pe_str))
 pss_nil)
 (pss_cons (ps_if (pt_not (pt_val (pe_call (w__law_are_ways N) (hr.mono (by decide)) (by rfl) N.g__law_are_ways N.F__law_are_ways.kp N.b__law_are_ways .nil pass0 (pa_cons (pv 1) (pa_cons (pv 2) (pa_cons (pv 4) pa_nil))))))
 (pss_one (ps_ret pe_str))
 pss_nil)
 (pss_cons (ps_if (PW.pt (pw_or (pt_not (pt_val (pe_callB (call_isiK K) (by rfl) N.m_isinstance (by decide +kernel) (pa_cons (pv 5) (pa_cons (pe_bltn (v := .ty "str") (by rfl) N.m_str (by decide +kernel) rfl) pa_nil))))) (pw_or1 (pt_cmpR (op_notInAK K (rm66 hr)) (pv 5) (pe_tup (pa_cons pe_str (pa_cons pe_str (pa_cons pe_str (pa_cons pe_str pa_nil))))) (by rfl)))))
 (pss_one (ps_ret pe_str))
 pss_nil)
 (pss_one (ps_ret (pe_ifExp (pt_val (pe_call (w__law_is_by N) (hr.mono (by decide)) (by rfl) N.g__law_is_by N.F__law_is_by.kp N.b__law_is_by .nil pass0 (pa_cons (pv 5) (pa_cons (pv 2) (pa_cons (pv 6) pa_nil))))) pe_non pe_str))))))))),
   fun B H0 as0 => ar1 fun things_1 => ⟨_, rfl,
 (blk_tg (vs := [1, 2, 3, 4, 5, 6]) (ev_var (i := 0) rfl) (pat6 (P := fun δ w => Blk _ _ δ w _ _) (by decide) (by decide) (by decide) (by decide) (by decide) (by decide) fun letters_2 rooms_here_3 first_4 ways_here_5 kind_6 by_here_7 =>
 (blk_seq (blk_ifL (S := Unit) (fun s_8 => [some (.im things_1), some (.im letters_2), some (.im rooms_here_3), some (.im first_4), some (.im ways_here_5), some (.im kind_6), some (.im by_here_7)]) (et_not (et_B (EvW.r (ev_call (ea_cons (ev_var (i := 1) rfl) (ea_cons ev_int (ea_cons ev_int ea_nil)))))))
 (blk_ret (EvW.f ev_str))
 (blk_fin [] (by rfl))) fun s_8 =>
 (blk_seq (blk_ifL (S := Unit) (fun s_9 => [some (.im things_1), some (.im letters_2), some (.im rooms_here_3), some (.im first_4), some (.im ways_here_5), some (.im kind_6), some (.im by_here_7)]) (et_not (et_B (EvW.r (ev_call (ea_cons (ev_var (i := 2) rfl) (ea_cons ev_int (ea_cons (ev_op ok_pow (EvW.r ev_int) (EvW.r ev_int)) ea_nil)))))))
 (blk_ret (EvW.f ev_str))
 (blk_fin [] (by rfl))) fun s_9 =>
 (blk_seq (blk_ifL (S := Unit) (fun s_10 => [some (.im things_1), some (.im letters_2), some (.im rooms_here_3), some (.im first_4), some (.im ways_here_5), some (.im kind_6), some (.im by_here_7)]) (et_not (et_B (EvW.r (ev_call (ea_cons (ev_var (i := 3) rfl) (ea_cons ev_int (ea_cons (ev_var (i := 2) rfl) ea_nil)))))))
 (blk_ret (EvW.f ev_str))
 (blk_fin [] (by rfl))) fun s_10 =>
 (blk_seq (blk_ifL (S := Unit) (fun s_11 => [some (.im things_1), some (.im letters_2), some (.im rooms_here_3), some (.im first_4), some (.im ways_here_5), some (.im kind_6), some (.im by_here_7)]) (et_not (et_B (EvW.r (ev_call (ea_cons (ev_var (i := 1) rfl) (ea_cons (ev_var (i := 2) rfl) (ea_cons (ev_var (i := 4) rfl) ea_nil)))))))
 (blk_ret (EvW.f ev_str))
 (blk_fin [] (by rfl))) fun s_11 =>
 (blk_seq (blk_ifL (S := Unit) (fun s_12 => [some (.im things_1), some (.im letters_2), some (.im rooms_here_3), some (.im first_4), some (.im ways_here_5), some (.im kind_6), some (.im by_here_7)]) (et_or (et_not (et_B (EvW.r (ev_isi (EvW.r (ev_var (i := 5) rfl)))))) (et_test (EvW.r (ev_op ok_notIn (EvW.r (ev_var (i := 5) rfl)) (EvW.r (ev_tup (ea_cons ev_str (ea_cons ev_str (ea_cons ev_str (ea_cons ev_str ea_nil))))))))))
 (blk_ret (EvW.f ev_str))
 (blk_fin [] (by rfl))) fun s_12 =>
 (blk_ret (EvW.f (ev_if (et_B (EvW.r (ev_call (ea_cons (ev_var (i := 5) rfl) (ea_cons (ev_var (i := 2) rfl) (ea_cons (ev_var (i := 6) rfl) ea_nil)))))) ev_non ev_str))))))))))⟩⟩
noncomputable def m_law (script_1 : U) : M U := fnM (.bind (callM (L1 m__law_hand) (consA (.ret script_1) nilA)) fun hand_here_2 => (seqO (S := Unit) (iteW (notT (testW (callM (L1 m__law_errors_right) (consA (.ret hand_here_2) nilA)))) (rtO (.ret (U.bl false))) (nxO ())) fun s_3 => (seqO (S := Unit) (.bind (rng1W (.ret (.int 12))) fun us => forO (fun turn_5 s_4 => (.bind (callM (L3 m__law_hall) (consA (.ret hand_here_2) (consA (op2 addU (.ret (.int 1)) (callM (L2' m__law_pick) (consA (.ret hand_here_2) (consA (.ret (.int 4)) nilA)))) (consA (.ret (.int 4)) nilA)))) fun things_6 => (.bind (.bind (lstW (consA (.bind (.ret (.int 0)) fun u => .o (leafO u)) (consA (.bind (.ret (.int 1)) fun u => .o (leafO u)) (consA (.bind (.ret (.int 2)) fun u => .o (leafO u)) (consA (.bind (.ret (.int 3)) fun u => .o (leafO u)) (consA (.bind (.ret (.int 4)) fun u => .o (leafO u)) (consA (.bind (.ret (.int 5)) fun u => .o (leafO u)) nilA))))))) fun u => .bind (.o (lstO u)) allocM) fun order_7 => (seqO (S := U) (.bind (rng1W (op2 addU (.ret (.int 2)) (callM (L2' m__law_pick) (consA (.ret hand_here_2) (consA (.ret (.int 3)) nilA))))) fun us => forO (fun k_9 s_8 => (.bind (callM (L3 m__law_bent) (consA (.ret hand_here_2) (consA (.ret s_8) (consA (popCM order_7 (callM (L2' m__law_pick) (consA (.ret hand_here_2) (consA (.bind (.bind (.ret order_7) locM) fun c => .o (lenLU c.2.1)) nilA)))) nilA)))) fun bent_here_10 => (.bind (tupW (consA (op2 ixU (.ret bent_here_10) (.ret (.int 0))) (consA (op2 ixU (.ret bent_here_10) (.ret (.int 1))) (consA (op2 ixU (.ret bent_here_10) (.ret (.int 3))) (consA (op2 ixU (.ret bent_here_10) (.ret (.int 5))) nilA))))) fun parts_11 => (.bind (lstW (consA (callM (L3 m__law_whole) (consA (op2 ixU (.ret parts_11) (.ret (.int 0))) (consA (op1 negU (.ret (.int 9))) (consA (.ret (.int 9)) nilA)))) (consA (callM (L3 m__law_whole) (consA (op2 ixU (.ret parts_11) (.ret (.int 1))) (consA (op1 negU (.ret (.int 9))) (consA (.ret (.int 9)) nilA)))) (consA (op1 (isiU · "tuple") (op2 ixU (.ret parts_11) (.ret (.int 2)))) nilA)))) fun kinds_12 => (seqO (S := Unit) (iteW (testW (op2 neU (callM (L1 m__law_refused) (consA (.ret bent_here_10) nilA)) (callM (L1 m__law_due) (consA (.ret bent_here_10) nilA)))) (rtO (.ret (U.bl false))) (nxO ())) fun s_13 => (.bind (iteW (andT (testW (op1 allU (.ret kinds_12))) (testW (op1 (isiU · "tuple") (op2 ixU (.ret parts_11) (.ret (.int 3)))))) (.ret bent_here_10) (.ret s_8)) fun things_14 => (nxO things_14))))))) us things_6) fun s_8 => (nxO ()))))) us ()) fun s_4 => (rtO (.ret (U.bl true))))))
theorem w_law {P : Program} {w : World} {K : PySem.W.Frag} {mg : Str → Option Value} {bs : Heap} (N : En w K mg) : FnG P w K mg bs CX0 11 (He.ga K "law") N.fd_law ["_law_script"] (spM ⟨K, He.ga K⟩ (L1 m_law)) :=
  fn_ok N.F_law sc_law (ar1 fun _ => rfl) fun cv A o s H E gd hr => ⟨_, PSs.nox (pss_cons (ps_set (i := 1) sc_law.nd rfl (.inl rfl) (pe_call (w__law_hand N) (hr.mono (by decide)) (by rfl) N.g__law_hand N.F__law_hand.kp N.b__law_hand .nil pass0 (pa_cons (pv 0) pa_nil)))
 (pss_cons (ps_if (pt_not (pt_val (pe_callG (w__law_errors_right N) gd (hr.mono (by decide)) (by rfl) N.g__law_errors_right N.F__law_errors_right.kp N.b__law_errors_right pass0 (pa_cons (pv 1) pa_nil))))
 (pss_one (ps_ret pe_bl))
 pss_nil)
 (pss_cons (ps_for PassesOwn.never rfl (pi_range1 (by rfl) N.m_range (pa_cons pe_int pa_nil)) (pg_name (i := 2) sc_law.nd rfl (.inl rfl))
 (pss_cons (ps_set (i := 3) sc_law.nd rfl (.inl rfl) (pe_call (w__law_hall N) (hr.mono (by decide)) (by rfl) N.g__law_hall N.F__law_hall.kp N.b__law_hall .nil pass0 (pa_cons (pv 1) (pa_cons (pe_op (op_addK K) pe_int (pe_call (w__law_pick N) (hr.mono (by decide)) (by rfl) N.g__law_pick N.F__law_pick.kp N.b__law_pick .nil pass0 (pa_cons (pv 1) (pa_cons pe_int pa_nil)))) (pa_cons pe_int pa_nil)))))
 (pss_cons (ps_set (i := 4) sc_law.nd rfl (.inl rfl) (pe_lst (pa_cons pe_int (pa_cons pe_int (pa_cons pe_int (pa_cons pe_int (pa_cons pe_int (pa_cons pe_int pa_nil))))))))
 (pss_one (ps_for PassesOwn.never rfl (pi_range1 (by rfl) N.m_range (pa_cons (pe_op (op_addK K) pe_int (pe_call (w__law_pick N) (hr.mono (by decide)) (by rfl) N.g__law_pick N.F__law_pick.kp N.b__law_pick .nil pass0 (pa_cons (pv 1) (pa_cons pe_int pa_nil)))) pa_nil)) (pg_name (i := 5) sc_law.nd rfl (.inl rfl))
 (pss_cons (ps_set (i := 6) sc_law.nd rfl (.inl rfl) (pe_call (w__law_bent N) (hr.mono (by decide)) (by rfl) N.g__law_bent N.F__law_bent.kp N.b__law_bent .nil pass0 (pa_cons (pv 1) (pa_cons (pv 3) (pa_cons (pe_bm PySem.F.plainAttrs_list PySem.F.slot_list_pop PySem.F.type_list_pop mt_popAt (pv 4) (pa_cons (pe_call (w__law_pick N) (hr.mono (by decide)) (by rfl) N.g__law_pick N.F__law_pick.kp N.b__law_pick .nil pass0 (pa_cons (pv 1) (pa_cons (pe_callB (call_lenK K) (by rfl) N.m_len PySem.boot_len (pa_cons (pv 4) pa_nil)) pa_nil))) pa_nil)) pa_nil)))))
 (pss_cons (ps_set (i := 7) sc_law.nd rfl (.inl rfl) (pe_tup (pa_cons (pe_ix (ix_seqK K) (pv 6) pe_int (fun _ _ => rfl)) (pa_cons (pe_ix (ix_seqK K) (pv 6) pe_int (fun _ _ => rfl)) (pa_cons (pe_ix (ix_seqK K) (pv 6) pe_int (fun _ _ => rfl)) (pa_cons (pe_ix (ix_seqK K) (pv 6) pe_int (fun _ _ => rfl)) pa_nil))))))
 (pss_cons (ps_set (i := 8) sc_law.nd rfl (.inl rfl) (pe_lst (pa_cons (pe_call (w__law_whole N) (hr.mono (by decide)) (by rfl) N.g__law_whole N.F__law_whole.kp N.b__law_whole .nil pass0 (pa_cons (pe_ix (ix_seqK K) (pv 7) pe_int (fun _ _ => rfl)) (pa_cons (pe_un un_neg pe_int) (pa_cons pe_int pa_nil)))) (pa_cons (pe_call (w__law_whole N) (hr.mono (by decide)) (by rfl) N.g__law_whole N.F__law_whole.kp N.b__law_whole .nil pass0 (pa_cons (pe_ix (ix_seqK K) (pv 7) pe_int (fun _ _ => rfl)) (pa_cons (pe_un un_neg pe_int) (pa_cons pe_int pa_nil)))) (pa_cons (pe_callB (call_isiK K) (by rfl) N.m_isinstance (by decide +kernel) (pa_cons (pe_ix (ix_seqK K) (pv 7) pe_int (fun _ _ => rfl)) (pa_cons (pe_bltn (v := .ty "tuple") (by rfl) N.m_tuple (by decide +kernel) rfl) pa_nil))) pa_nil)))))
 (pss_cons (ps_if (pt_cmpR (op_neK K hr.units) (pe_call (w__law_refused N) (hr.mono (by decide)) (by rfl) N.g__law_refused N.F__law_refused.kp N.b__law_refused .nil pass0 (pa_cons (pv 6) pa_nil)) (pe_call (w__law_due N) (hr.mono (by decide)) (by rfl) N.g__law_due N.F__law_due.kp N.b__law_due .nil pass0 (pa_cons (pv 6) pa_nil)) (nomark _))
 (pss_one (ps_ret pe_bl))
 pss_nil)
 (pss_one (ps_set (i := 3) sc_law.nd rfl (.inl rfl) (pe_ifExp (PW.pt (pw_and (pt_val (pe_callB (cr_allK K rfl) (by rfl) N.m_all (by decide +kernel) (pa_cons (pv 8) pa_nil))) (pw_and1 (pt_val (pe_callB (call_isiK K) (by rfl) N.m_isinstance (by decide +kernel) (pa_cons (pe_ix (ix_seqK K) (pv 7) pe_int (fun _ _ => rfl)) (pa_cons (pe_bltn (v := .ty "tuple") (by rfl) N.m_tuple (by decide +kernel) rfl) pa_nil))))))) (pv 6) (pv 3)))))))))))))
 (pss_one (ps_ret pe_bl))))),
   fun B H0 as0 => ar1 fun script_1 => ⟨_, rfl,
 (blk_set (i := 1) (ev_call (ea_cons (ev_var (i := 0) rfl) ea_nil)) fun hand_here_2 =>
 (blk_seq (blk_ifL (S := Unit) (fun s_3 => [some (.im script_1), some (.im hand_here_2), none, none, none, none, none, none, none]) (et_not (et_B (EvW.r (ev_call (ea_cons (ev_var (i := 1) rfl) ea_nil)))))
 (blk_ret (EvW.f ev_bl))
 (blk_fin [] (by rfl))) fun s_3 =>
 (blk_seq (blk_forL (S := Unit) [2, 3, 4, 5, 6, 7, 8] [2] (fun s_4 => [some (.im script_1), some (.im hand_here_2), none, none, none, none, none, none, none]) (by rfl) (src_range1 (EvW.r ev_int))
 (fun s_4 turn_5 st r q => ⟨_, tg_name (by decide), (blk_set (i := 3) (ev_call (ea_cons (ev_var (i := 1) rfl) (ea_cons (ev_op ok_add (EvW.r ev_int) (EvW.r (ev_call (ea_cons (ev_var (i := 1) rfl) (ea_cons ev_int ea_nil))))) (ea_cons ev_int ea_nil)))) fun things_6 =>
 (blk_newC (i := 4) (enf_lst (eanf_cons (enf_leaf ev_int) (eanf_cons (enf_leaf ev_int) (eanf_cons (enf_leaf ev_int) (eanf_cons (enf_leaf ev_int) (eanf_cons (enf_leaf ev_int) (eanf_cons (enf_leaf ev_int) eanf_nil))))))) fun order_7 =>
 (blk_last (blk_seq (blk_forL (S := U) [5, 6, 7, 8] [5] (fun s_8 => [some (.im script_1), some (.im hand_here_2), some (.im turn_5), some (.im s_8), some (.im order_7), none, none, none, none]) (by rfl) (src_range1 (EvW.r (ev_op ok_add (EvW.r ev_int) (EvW.r (ev_call (ea_cons (ev_var (i := 1) rfl) (ea_cons ev_int ea_nil)))))))
 (fun s_8 k_9 st r q => ⟨_, tg_name (by decide), (blk_set (i := 6) (ev_call (ea_cons (ev_var (i := 1) rfl) (ea_cons (ev_var (i := 3) rfl) (ea_cons (ev_popC (i := 4) rfl (ev_call (ea_cons (ev_var (i := 1) rfl) (ea_cons (ev_lenC (ec_loc (ev_var (i := 4) rfl))) ea_nil)))) ea_nil)))) fun bent_here_10 =>
 (blk_set (i := 7) (ev_tup (ea_cons (ev_op ok_ix (EvW.r (ev_var (i := 6) rfl)) (EvW.r ev_int)) (ea_cons (ev_op ok_ix (EvW.r (ev_var (i := 6) rfl)) (EvW.r ev_int)) (ea_cons (ev_op ok_ix (EvW.r (ev_var (i := 6) rfl)) (EvW.r ev_int)) (ea_cons (ev_op ok_ix (EvW.r (ev_var (i := 6) rfl)) (EvW.r ev_int)) ea_nil))))) fun parts_11 =>
 (blk_set (i := 8) (EvN.ew (en_lst (ea_cons (ev_call (ea_cons (ev_op ok_ix (EvW.r (ev_var (i := 7) rfl)) (EvW.r ev_int)) (ea_cons (ev_neg (EvW.r ev_int)) (ea_cons ev_int ea_nil)))) (ea_cons (ev_call (ea_cons (ev_op ok_ix (EvW.r (ev_var (i := 7) rfl)) (EvW.r ev_int)) (ea_cons (ev_neg (EvW.r ev_int)) (ea_cons ev_int ea_nil)))) (ea_cons (ev_isi (EvW.r (ev_op ok_ix (EvW.r (ev_var (i := 7) rfl)) (EvW.r ev_int)))) ea_nil))))) fun kinds_12 =>
 (blk_seq (blk_ifL (S := Unit) (fun s_13 => [some (.im script_1), some (.im hand_here_2), some (.im turn_5), some (.im s_8), some (.im order_7), some (.im k_9), some (.im bent_here_10), some (.im parts_11), some (.im kinds_12)]) (et_test (EvW.r (ev_op ok_ne (EvW.r (ev_call (ea_cons (ev_var (i := 6) rfl) ea_nil))) (EvW.r (ev_call (ea_cons (ev_var (i := 6) rfl) ea_nil))))))
 (blk_ret (EvW.f ev_bl))
 (blk_fin [] (by rfl))) fun s_13 =>
 (blk_last (blk_set (i := 3) (ev_if (et_and (et_B (EvW.r (ev_cb1 ok_all (EvW.r (ev_var (i := 8) rfl))))) (et_B (EvW.r (ev_isi (EvW.r (ev_op ok_ix (EvW.r (ev_var (i := 7) rfl)) (EvW.r ev_int))))))) (ev_var (i := 6) rfl) (ev_var (i := 3) rfl)) fun things_14 =>
 (blk_fin [5, 6, 7, 8] (by rfl))))))))⟩)) fun s_8 =>
 (blk_fin [2, 3, 4, 5, 6, 7, 8] (by rfl))))))⟩)) fun s_4 =>
 (blk_ret (EvW.f ev_bl)))))⟩⟩
local macro_rules | `(tactic| walk_at "v1") => `(tactic| with_reducible first
  | refine vs_ret ?_ | refine vs_o ?_ | refine wo_some ?_ | refine Wp.bind ?_ | refine vs_op2 ?_ | refine vs_op1 ?_ | refine vs_test ?_ | refine vs_not ?_ | refine vs_and ?_ | refine vs_or ?_ | refine vs_andW ?_ | refine vs_orW ?_ | refine vs_ite ?_ | refine vs_chain ?_
  | refine vs_consA ?_ | refine vs_nilA ?_ | refine vs_tup ?_ | refine vs_lst ?_ | refine vs_call ?_ | refine vs_meth ?_ | refine vs_L1 ?_ | refine vs_L2 ?_ | refine vs_L3 ?_ | refine vs_L4 ?_ | refine vs_L5 ?_ | refine vs_L6 ?_ | refine vs_L0 ?_
  | refine vs_seq ?_ | refine sk_nx ?_ | refine sk_rt ?_ | refine sk_bk ?_ | refine sk_ct ?_ | refine fk_rt ?_ | refine fk_nx ?_ | refine ok_nx ?_ | refine ok_ct ?_ | refine ok_bk ?_ | refine ok_rt ?_ | refine vs_rt ?_ | refine vs_nx ?_ | refine vs_fn ?_
  | refine vs_noP ?_ | refine vs_someP ?_ | refine vs_sl ?_ | refine vs_it ?_ | refine vs_rng1 ?_ | refine vs_rng2 ?_ | refine vs_zip ?_ | refine vs_un2 ?_ | refine vs_un3 ?_ | refine vs_un4 ?_ | refine vs_un5 ?_ | refine vs_un6 ?_ | refine vs_lc ?_ | refine vs_lc2 ?_ | refine vs_bind2 ?_ | refine vs_bindS ?_ | refine vs_enum ?_ | refine vs_keys ?_ | refine vs_tupR ?_ | refine vs_lstR ?_ | refine vs_xitem ?_ | refine vs_itX ?_ | refine vs_keysN ?_ | refine vs_un22 ?_ | refine vs_un21 ?_
  | refine if_t ?_ | refine if_f ?_ | refine if_nt ?_ | refine if_nf ?_
  | refine wo_add_i ?_ | refine wo_sub ?_ | refine wo_neg ?_ | refine wo_le ?_ | refine wo_lt ?_ | refine wo_gt ?_ | refine wo_ge ?_ | refine wo_eq_i ?_ | refine wo_ne_i ?_ | refine wo_eq_s ?_ | refine wo_ne_s ?_ | refine wo_not ?_ | refine wo_bool ?_ | refine wo_int ?_
  | refine wo_len_t ?_ | refine wo_len_l ?_ | refine wo_len_f ?_ | refine wo_tuple_l ?_ | refine wo_tuple_t ?_ | refine wo_list_l ?_ | refine wo_list_t ?_ | refine wo_it_t ?_ | refine wo_it_l ?_ | refine wo_it_f ?_ | refine wo_sl_t ?_ | refine wo_sl_l ?_ | refine wo_zip_tt ?_ | refine wo_enum_t ?_ | refine wo_enum_l ?_ | refine wo_in_t ?_ | refine wo_in_l ?_ | refine wo_nin_t ?_ | refine wo_nin_l ?_ | refine wo_eq_b ?_ | refine wo_ne_b ?_ | refine wo_dTin ?_ | refine wo_dTnin ?_ | refine wo_dTkeys ?_)
local macro_rules | `(tactic| walk_at "v2") => `(tactic| first
  | refine ⟨lit_le rfl, ?_⟩
  | (with_reducible refine wo_mul (by omega) ?_) | (with_reducible refine wo_modp (by omega) ?_) | (with_reducible refine wo_mod (by omega) ?_) | (with_reducible refine wo_fdiv (by omega) (by omega) ?_)
  | (with_reducible refine wo_rng1 ⟨by omega, by omega⟩ ?_) | (with_reducible refine wo_rng2 ⟨by omega, by omega⟩ ⟨by omega, by omega⟩ ?_)
  | (with_reducible refine wo_ix_t rfl ?_) | (with_reducible refine wo_ix_l rfl ?_) | (with_reducible refine wo_ix0 ?_) | (with_reducible refine wo_ix1 ?_) | (with_reducible refine wo_ix2 ?_) | (with_reducible refine wo_isObj rfl ?_) | (with_reducible refine wo_fld rfl ?_))
local macro_rules | `(tactic| walk_at "v") => `(tactic| repeat (first | walk_at "v1" | walk_at "v2"))
abbrev hs (tl : Sto) (cs : List Int) (s : Int) : Sto := .lst [.lst (cs.map .int), .int s] :: tl
def Hd (tl : Sto) (st : Sto) : Prop := ∃ (cs : List Int) (s : Int), st = hs tl cs s ∧ 0 ≤ s ∧ s < 2305843009213693951
variable {tl : Sto}
abbrev c0 : M Cl := .bind (.bind (.ret (.loc 0)) locM) fun c => .bind (.ret (.int 0)) fun n => .o (ixC c n)
theorem c0_at (cs : List Int) (s : Int) : c0 (hs tl cs s) = some (.ok (0, (.lst (cs.map .int), fun x => .lst [x, .int s])), hs tl cs s) := rfl
theorem ixN0 (n : Nat) : ixN (n + 1) 0 = some 0 := by unfold ixN; rw [if_pos (by omega), if_pos (by omega)]; rfl
theorem ixC0 (i : Nat) (u : U) (us : List U) (f : U → U) : ixC (i, (.lst (u :: us), f)) (.int 0) = some (i, (u, fun x => f (.lst (x :: us)))) := by
  simp only [ixC, ixH, List.length_cons, ixN0]
  rfl
theorem c00_at (c : Int) (cs : List Int) (s : Int) : (M.bind c0 fun c => .bind (.ret (.int 0)) fun n => .o (ixC c n)) (hs tl (c :: cs) s) = some (.ok (0, (.int c, fun x => .lst [.lst (x :: cs.map .int), .int s])), hs tl (c :: cs) s) := by
  rw [M.bind_of (c0_at (c :: cs) s)]
  show M.o (ixC (0, (.lst (.int c :: cs.map .int), fun x => .lst [x, .int s])) (.int 0)) _ = _
  rw [ixC0]; rfl
theorem v00_at (c : Int) (cs : List Int) (s : Int) : (M.bind (M.bind c0 fun c => .bind (.ret (.int 0)) fun n => .o (ixC c n)) fun c => .o (valC c)) (hs tl (c :: cs) s) = some (.ok (.int c), hs tl (c :: cs) s) := by
  rw [M.bind_of (c00_at c cs s)]; rfl
theorem pick_big {m : Int} {st : Sto} (h : Hd tl st) (h0 : 0 < m) (h1 : m < 1000000001) : Wp (m__law_pick (.loc 0) (.int m)) st fun u s => ∃ k : Int, u = .int k ∧ 0 ≤ k ∧ k < m ∧ Hd tl s := by
  obtain ⟨cs, s, rfl, b0, b1⟩ := h
  unfold m__law_pick
  refine .fn (.seq (Wp.mono (Q := fun o st => ∃ cs : List Int, o = .nx () ∧ st = hs tl cs s ∧ ∀ c r, cs = c :: r → c ≠ 0) (Wp.while (L := Unit) (fun n _ st => ∃ cs : List Int, n = cs.length ∧ st = hs tl cs s) ?_ (n := cs.length) ⟨cs, rfl, rfl⟩) ?_))
  · rintro n u _ ⟨cs, rfl, rfl⟩
    refine .and (.test (.eq (a := .bl (!cs.isEmpty)) (s := hs tl cs s) ?_ ⟨_, rfl, ?_⟩))
    · rw [M.bind_of (c0_at cs s)]
      show M.o (neU (.lst (cs.map .int)) (.lst [])) _ = _
      rw [neU_nil]; rfl
    cases cs with
    | nil => exact ⟨[], rfl, rfl, fun _ _ e => nomatch e⟩
    | cons c cs =>
      refine .test (.op2 (.eq (v00_at c cs s) (.ret ⟨_, eqU_int c 0, _, rfl, ?_⟩)))
      by_cases hc : c = 0
      · rw [decide_eq_true hc]
        refine .bind (.eq (c0_at (c :: cs) s) (.bind (.ret (.bind (.o (a := (.int c, (0, (.lst [.lst (cs.map .int), .int s], id)))) ?_ (.bind (.eq (a := ()) (s := hs tl cs s) rfl (.nx ⟨cs.length, by simp, cs, rfl, rfl⟩))))))))
        have hl : (List.map U.int (c :: cs)).all leafU = true := leaf_ints _
        have hl2 : (List.map U.int cs).all leafU = true := leaf_ints _
        simp only [mutC, hl, popAtL, List.map_cons, List.length_cons]
        simp [seqIndex?, leafU, hl2]
      · rw [decide_eq_false hc]
        exact ⟨c :: cs, rfl, rfl, fun _ _ e => by cases e; exact hc⟩
  · rintro o _ ⟨cs, rfl, rfl, hz⟩
    show Wp _ _ _
    refine .seq (.ite (.test (.eq (a := .bl (!cs.isEmpty)) (s := hs tl cs s) ?_ ⟨_, rfl, ?_⟩)))
    · rw [M.bind_of (c0_at cs s)]
      show M.o (neU (.lst (cs.map .int)) (.lst [])) _ = _
      rw [neU_nil]; rfl
    cases cs with
    | nil =>
      show Wp (nxO ()) _ _
      refine .nx ?_
      show Wp _ _ _
      have hm : CMul s 3935559000370003 := .inl (by omega)
      refine .bind (.op2 (.op2 (.op2 (.eq (a := .int s) (s := hs tl [] s) rfl (.ret ⟨_, mul_at hm, .ret ⟨_, rfl, .ret ⟨_, mod_at (by decide), ?_⟩⟩⟩)))))
      generalize e1 : (s * 3935559000370003 + 2691343689449507).fmod 2305843009213693951 = s1
      have k0 : 0 ≤ s1 := by rw [← e1]; exact Int.fmod_nonneg_of_pos _ (by decide)
      have k1 : s1 < 2305843009213693951 := by rw [← e1]; exact Int.fmod_lt_of_pos _ (by decide)
      refine .bind (.eq (a := (0, (_, id))) (s := hs tl [] s) rfl (.bind (.ret (.bind (.o (a := (0, (.lst [.lst [], .int s1], id))) rfl (.bind (.eq (a := ()) (s := hs tl [] s1) rfl ?_)))))))
      refine .bind (.op2 (.eq (a := .int s1) (s := hs tl [] s1) rfl (.ret ⟨_, fdiv_at (by decide) (by decide), ?_⟩)))
      generalize e2 : s1.fdiv 65537 = x
      have x0 : 0 ≤ x := by rw [← e2]; exact Int.fdiv_nonneg k0 (by decide)
      have x1 : x < 2305843009213693951 := by
        rw [← e2, Int.fdiv_eq_ediv_of_nonneg _ (by decide)]
        omega
      have hm2 : CMul x (x.fmod 8191 + 3) := .inl (by omega)
      refine .rt (.op2 (.op2 (.op2 (.op2 (.ret (.op2 (.op2 (.ret (.ret ⟨_, mod_at (by decide), .ret ⟨_, rfl, ⟨_, mul_at hm2, .ret ⟨_, mod_at (by decide), .ret ⟨_, fdiv_at (by decide) (by decide), .ret ⟨_, mod_at (by omega), ?_⟩⟩⟩⟩⟩⟩)))))))))
      exact ⟨_, rfl, Int.fmod_nonneg_of_pos _ h0, Int.fmod_lt_of_pos _ h0, [], s1, rfl, k0, k1⟩
    | cons c cs =>
      show Wp (M.bind _ _) _ _
      refine .bind (.op2 (.eq (v00_at c cs s) (.ret ⟨_, mod_at (by omega), ?_⟩)))
      refine .bind (.op2 (.eq (v00_at c cs s) (.ret ⟨_, fdiv_at (by omega) (by omega), ?_⟩)))
      refine .bind (.eq (c0_at (c :: cs) s) (.bind (.ret (.bind (.o (a := (0, (.lst [.lst (.int (c.fdiv m) :: cs.map .int), .int s], id))) ?_ (.bind (.eq (a := ()) (s := hs tl (c.fdiv m :: cs) s) rfl (.rt (.ret ?_)))))))))
      · simp only [setItC, List.map_cons, List.length_cons, ixN0]
        rfl
      · exact ⟨_, rfl, Int.fmod_nonneg_of_pos _ h0, Int.fmod_lt_of_pos _ h0, _, s, rfl, b0, b1⟩
theorem pick_ok {m : Int} {st : Sto} (h : Hd tl st) (h0 : 0 < m) (h1 : m < 1000000000) : Wp (m__law_pick (.loc 0) (.int m)) st fun u s => ∃ k : Int, u = .int k ∧ 0 ≤ k ∧ k < m ∧ Hd tl s := pick_big h h0 (by omega)
theorem hand_ok {ns : List Int} (h : ns.length ≤ 63) : Wp (m__law_hand (.frl (ns.map .int))) [] fun u st => u = .loc 0 ∧ Hd [] st := by
  unfold m__law_hand
  have isI : ∀ (i : Nat) (u : U), (EL.cut (ns.map U.int) none (some 63))[i]? = some u → ∃ c : Int, u = .int c := fun i u e => by
    obtain ⟨c, _, rfl⟩ := List.mem_map.mp (EL.cut_sub (List.mem_of_getElem? e))
    exact ⟨c, rfl⟩
  have src : ∀ {Q : List U → Sto → Prop}, Q (EL.cut (ns.map U.int) none (some 63)) [] → Wp (itW (slW (.ret (.frl (ns.map .int))) noP (someP (.ret (.int 63))))) [] Q := fun q => ⟨_, _, rfl, q⟩
  refine .fn (.bind (.ret (.seq (.bind (src (Wp.for (fun _ s st => ∃ k : Int, s = .int k ∧ 0 ≤ k ∧ k < 2305843009213693951 ∧ st = []) ⟨23, rfl, by decide, by decide, rfl⟩ ?_ ?_))))))
  · rintro i u s st e ⟨k, rfl, k0, k1, rfl⟩
    obtain ⟨c, rfl⟩ := isI i u e
    have hm : CMul k 6364136223846793 := .inl (by omega)
    refine .bind (.op2 (.op2 (.op2 (.op2 (.ret (.ret ⟨_, mul_at hm, .op2 (.ret (.ret ⟨_, mod_at (by decide), ⟨_, rfl, .ret ⟨_, rfl, .ret ⟨_, mod_at (by decide), .nx ?_⟩⟩⟩⟩))⟩))))))
    exact ⟨_, rfl, Int.fmod_nonneg_of_pos _ (by decide), Int.fmod_lt_of_pos _ (by decide), rfl⟩
  · rintro s st ⟨k, rfl, k0, k1, rfl⟩
    show Wp _ _ _
    refine .rt (.bind (.lst (.consA (.bind (.lc (src (Wp.comp (fun i r st => r.length ≤ i ∧ (∃ cs : List Int, r = cs.map .int) ∧ st = []) ⟨Nat.le_refl _, ⟨[], rfl⟩, rfl⟩ ?_ ?_)))))))
    · rintro i u r st e ⟨hl, ⟨cs, rfl⟩, rfl⟩
      obtain ⟨c, rfl⟩ := isI i u e
      refine .test (.op2 (.ret (.op2 (.ret (.ret ⟨_, pow_at (i := 10) (j := 18) ⟨by decide, by decide, by decide⟩, _, rfl, _, rfl, ?_⟩)))))
      split
      · exact .ret ⟨by rw [List.length_append]; simpa using hl, ⟨cs ++ [c], by simp⟩, rfl⟩
      · exact ⟨by omega, ⟨cs, rfl⟩, rfl⟩
    · rintro r st ⟨hl, ⟨cs, rfl⟩, rfl⟩
      have hlen : (cs.map U.int).length ≤ sizeLine := by
        have h1 := EL.cut_len (xs := ns.map U.int) (lo := none) (hi := some 63)
        rw [List.length_map] at h1
        have : (63 : Nat) ≤ sizeLine := by decide
        omega
      refine ⟨hlen, .o (a := .lst (cs.map .int)) ?_ (.consA (.bind (.ret (.o (a := .int k) rfl (.nilA ⟨(by decide : 2 ≤ sizeLine), .bind (.o (a := _) rfl ⟨_, _, rfl, rfl, cs, k, rfl, k0, k1⟩)⟩)))))⟩
      simp only [flatO, leaf_ints, if_true]
theorem of_ok {us : List U} {st : Sto} (h : Hd tl st) (h0 : 0 < us.length) (h1 : us.length < 1000000000) : Wp (m__law_of (.loc 0) (.lst us)) st fun u s => u ∈ us ∧ Hd tl s := by
  unfold m__law_of
  refine .fn (.rt (.op2 (.ret (.call (.consA (.ret (.consA (.op1 (.ret ⟨.int us.length, rfl, .nilA ?_⟩)))))))))
  refine (pick_ok h (by omega) (by omega)).mono ?_
  rintro _ s ⟨k, rfl, k0, k1, hs⟩
  have hk : k.toNat < us.length := by omega
  refine ⟨us[k.toNat], ?_, List.getElem_mem hk, hs⟩
  show atI us k = _
  unfold atI ixN
  rw [if_pos k0, if_pos (by omega)]
  exact List.getElem?_eq_getElem hk
def Rs (n : Int) (rs : List Int) : Prop := rs.Pairwise (· < ·) ∧ ∀ r ∈ rs, 0 ≤ r ∧ r < n
theorem rng_get {n : Int} {i : Nat} {u : U} (e : ((List.range n.toNat).map fun i => U.int (i : Nat))[i]? = some u) : u = .int (i : Nat) ∧ (i : Int) < n := by
  have hi : i < n.toNat := by have := getElem?_lt e; simpa using this
  rw [List.getElem?_map, List.getElem?_range hi] at e
  cases e
  exact ⟨rfl, by omega⟩
theorem rng_at {n : Int} (h0 : 0 ≤ n) (h1 : n < 1000000000) : rng1U (.int n) = some ((List.range n.toNat).map fun i => U.int (i : Nat)) := if_pos ⟨by omega, by omega⟩
theorem wp_rng {n : Int} {st : Sto} {Q : List U → Sto → Prop} (h0 : 0 ≤ n) (h1 : n < 1000000000) (q : Q ((List.range n.toNat).map fun i => U.int (i : Nat)) st) : Wp (rng1W (.ret (.int n))) st Q := .bind (.ret (.o (rng_at h0 h1) q))
theorem rooms_ok {n : Int} {st : Sto} (h : Hd tl st) (h0 : 0 ≤ n) (h1 : n < 100000) : Wp (m__law_rooms (.loc 0) (.int n)) st fun u s => ∃ rs : List Int, u = .tup (rs.map .int) ∧ Rs n rs ∧ Hd tl s := by
  unfold m__law_rooms
  refine .fn (.rt (.op1 (.lc (wp_rng h0 (by omega) (Wp.comp (fun i r st => ∃ rs : List Int, r = rs.map .int ∧ rs.Pairwise (· < ·) ∧ (∀ x ∈ rs, 0 ≤ x ∧ x < (i : Int) ∧ x < n) ∧ r.length ≤ i ∧ Hd tl st) ⟨[], rfl, .nil, (by simp), Nat.le_refl _, h⟩ ?_ ?_)))))
  · rintro i u r st e ⟨rs, rfl, pw, hb, hl, hd⟩
    obtain ⟨rfl, hi⟩ := rng_get e
    refine .test (.op2 (.call (.consA (.ret (.consA (.ret (.nilA ?_)))))))
    refine (pick_ok (m := 2) hd (by decide) (by decide)).mono ?_
    rintro _ s ⟨k, rfl, k0, k1, hs⟩
    refine .ret ⟨_, eqU_int k 0, _, rfl, ?_⟩
    split
    · refine .ret ⟨rs ++ [(i : Int)], by simp, ?_, ?_, by simpa using hl, hs⟩
      · rw [List.pairwise_append]
        exact ⟨pw, List.pairwise_singleton _ _, fun a ha b hb' => by rw [List.mem_singleton.mp hb']; exact (hb a ha).2.1⟩
      · intro x m
        rcases List.mem_append.mp m with m | m
        · have := hb x m; omega
        · rw [List.mem_singleton.mp m]; omega
    · exact ⟨rs, rfl, pw, fun x m => by have := hb x m; omega, by omega, hs⟩
  · rintro r st ⟨rs, rfl, pw, hb, hl, hd⟩
    refine ⟨?_, .tup (rs.map .int), rfl, rs, rfl, ⟨pw, fun x m => ⟨(hb x m).1, (hb x m).2.2⟩⟩, hd⟩
    have : (100000 : Nat) ≤ sizeLine := by decide
    simp only [List.length_map, List.length_range] at hl ⊢
    omega
def pairU (p : List Int × List Int) : U := .tup [.tup (p.1.map .int), .tup (p.2.map .int)]
inductive ByOk (n : Int) : Str → U → Prop where
  | again {rs : List Int} (h : Rs n rs) : ByOk n "again" (.tup (rs.map .int))
  | last {rs : List Int} (h : Rs n rs) : ByOk n "at last" (.tup (rs.map .int))
  | pairs {ps : List (List Int × List Int)} (l : ps.length ≤ 4) (h : ∀ p ∈ ps, Rs n p.1 ∧ Rs n p.2) : ByOk n "pairs" (.tup (ps.map pairU))
  | ranks {rk : List Int} (l : (rk.length : Int) = n) (h : ∀ r ∈ rk, 0 ≤ r ∧ r < 1000) : ByOk n "ranks" (.tup (rk.map .int))
def kinds4 : List U := [.str "again", .str "at last", .str "pairs", .str "ranks"]
theorem wp_pick {m : Int} {st : Sto} {Q : U → Sto → Prop} (h : Hd tl st) (h0 : 0 < m) (h1 : m < 1000000000) (k : ∀ (k : Int) (s : Sto), 0 ≤ k → k < m → Hd tl s → Q (.int k) s) : Wp (callM (L2' m__law_pick) (consA (.ret (.loc 0)) (consA (.ret (.int m)) nilA))) st Q :=
  .call (.consA (.ret (.consA (.ret (.nilA ((pick_ok h h0 h1).mono fun _ s ⟨a, e, a0, a1, hs⟩ => e ▸ k a s a0 a1 hs))))))
theorem wp_rooms {n : Int} {st : Sto} {Q : U → Sto → Prop} (h : Hd tl st) (h0 : 0 ≤ n) (h1 : n < 100000) (k : ∀ (rs : List Int) (s : Sto), Rs n rs → Hd tl s → Q (.tup (rs.map .int)) s) : Wp (callM (L2' m__law_rooms) (consA (.ret (.loc 0)) (consA (.ret (.int n)) nilA))) st Q :=
  .call (.consA (.ret (.consA (.ret (.nilA ((rooms_ok h h0 h1).mono fun _ s ⟨a, e, a0, hs⟩ => e ▸ k a s a0 hs))))))
theorem kind_eq : eqU (.str "again") (.str "pairs") = some (.bl false) ∧ eqU (.str "at last") (.str "pairs") = some (.bl false) ∧ eqU (.str "pairs") (.str "pairs") = some (.bl true) ∧ eqU (.str "ranks") (.str "pairs") = some (.bl false) ∧
    eqU (.str "again") (.str "ranks") = some (.bl false) ∧ eqU (.str "at last") (.str "ranks") = some (.bl false) ∧ eqU (.str "ranks") (.str "ranks") = some (.bl true) := ⟨eqU_str (by decide), eqU_str (by decide), eqU_str (by decide), eqU_str (by decide), eqU_str (by decide), eqU_str (by decide), eqU_str (by decide)⟩
theorem by_ok {n : Int} {kind : Str} {st : Sto} (hk : U.str kind ∈ kinds4) (h : Hd tl st) (h0 : 0 ≤ n) (h1 : n < 100000) : Wp (m__law_by (.loc 0) (.str kind) (.int n)) st fun u s => ByOk n kind u ∧ Hd tl s := by
  unfold m__law_by
  obtain ⟨e1, e2, e3, e4, e5, e6, e7⟩ := kind_eq
  have hk' : kind = "again" ∨ kind = "at last" ∨ kind = "pairs" ∨ kind = "ranks" := by simpa [kinds4] using hk
  rcases hk' with rfl | rfl | rfl | rfl
  · refine .fn (.seq (.ite (.test (.op2 (.ret (.ret ⟨_, e1, _, rfl, ?_⟩))))))
    refine .nx (.seq (.ite (.test (.op2 (.ret (.ret ⟨_, e5, _, rfl, ?_⟩))))))
    exact .nx (.rt (wp_rooms h h0 h1 fun rs s hr hs => ⟨.again hr, hs⟩))
  · refine .fn (.seq (.ite (.test (.op2 (.ret (.ret ⟨_, e2, _, rfl, ?_⟩))))))
    refine .nx (.seq (.ite (.test (.op2 (.ret (.ret ⟨_, e6, _, rfl, ?_⟩))))))
    exact .nx (.rt (wp_rooms h h0 h1 fun rs s hr hs => ⟨.last hr, hs⟩))
  · refine .fn (.seq (.ite (.test (.op2 (.ret (.ret ⟨_, e3, _, rfl, ?_⟩))))))
    refine .rt (.op1 (.lc (.bind (wp_pick h (by decide) (by decide) fun k s k0 k1 hs => .o (rng_at k0 (by omega)) ?_))))
    refine Wp.comp (fun i r st => ∃ ps : List (List Int × List Int), r = ps.map pairU ∧ ps.length = i ∧ (∀ p ∈ ps, Rs n p.1 ∧ Rs n p.2) ∧ Hd tl st) ⟨[], rfl, rfl, (by simp), hs⟩ ?_ ?_
    · rintro i u r st e ⟨ps, rfl, hl, hp, hd⟩
      refine .ret (.tup (.consA (wp_rooms hd h0 h1 fun a s ha hs => .consA (wp_rooms hs h0 h1 fun b s hb hs => .nilA ⟨(by decide : 2 ≤ sizeLine), ps ++ [(a, b)], ?_, ?_, ?_, hs⟩))))
      · simp [pairU]
      · simp [hl]
      · intro p m
        rcases List.mem_append.mp m with m | m
        · exact hp p m
        · rw [List.mem_singleton.mp m]; exact ⟨ha, hb⟩
    · rintro r st ⟨ps, rfl, hl, hp, hd⟩
      rw [List.length_map, List.length_range] at hl
      have : (100000 : Nat) ≤ sizeLine := by decide
      exact ⟨by rw [List.length_map]; omega, _, rfl, .pairs (by omega) hp, hd⟩
  · refine .fn (.seq (.ite (.test (.op2 (.ret (.ret ⟨_, e4, _, rfl, ?_⟩))))))
    refine .nx (.seq (.ite (.test (.op2 (.ret (.ret ⟨_, e7, _, rfl, ?_⟩))))))
    refine .rt (.op1 (.lc (wp_rng h0 (by omega) (Wp.comp (fun i r st => ∃ rk : List Int, r = rk.map .int ∧ rk.length = i ∧ (∀ x ∈ rk, 0 ≤ x ∧ x < 1000) ∧ Hd tl st) ⟨[], rfl, rfl, (by simp), h⟩ ?_ ?_))))
    · rintro i u r st e ⟨rk, rfl, hl, hp, hd⟩
      refine .ret (wp_pick hd (by decide) (by decide) fun k s k0 k1 hs => ⟨rk ++ [k], by simp, by simp [hl], fun x m => ?_, hs⟩)
      rcases List.mem_append.mp m with m | m
      · exact hp x m
      · rw [List.mem_singleton.mp m]; exact ⟨k0, by omega⟩
    · rintro r st ⟨rk, rfl, hl, hp, hd⟩
      rw [List.length_map, List.length_range] at hl
      have : (100000 : Nat) ≤ sizeLine := by decide
      exact ⟨by rw [List.length_map]; omega, _, rfl, .ranks (by omega) hp, hd⟩
def Tri (n L : Int) (w : List Int) : Prop := ∃ r l e : Int, w = [r, l, e] ∧ 0 ≤ r ∧ r < n ∧ 0 ≤ l ∧ l < L ∧ 0 ≤ e ∧ e < n
def lexLt : List Int → List Int → Prop
  | [r, l, e], [r', l', e'] => r < r' ∨ (r = r' ∧ (l < l' ∨ (l = l' ∧ e < e')))
  | _, _ => False
def WOk (n L : Int) (W : List (List Int)) : Prop := (∀ w ∈ W, Tri n L w) ∧ W.Pairwise lexLt
def Ahd (i j : Int) (W : List (List Int)) : Prop := ∀ w ∈ W, ∃ r l e : Int, w = [r, l, e] ∧ (r < i ∨ (r = i ∧ l < j))
theorem wok_more {n L i j : Int} {W : List (List Int)} {es : List Int} (h : WOk n L W) (ha : Ahd i j W) (hi : 0 ≤ i ∧ i < n) (hj : 0 ≤ j ∧ j < L) (he : Rs n es) : WOk n L (W ++ es.map fun e => [i, j, e]) ∧ Ahd i (j + 1) (W ++ es.map fun e => [i, j, e]) := by
  refine ⟨⟨fun w m => ?_, ?_⟩, fun w m => ?_⟩
  · rcases List.mem_append.mp m with m | m
    · exact h.1 w m
    · obtain ⟨e, me, rfl⟩ := List.mem_map.mp m
      have := he.2 e me
      exact ⟨i, j, e, rfl, hi.1, hi.2, hj.1, hj.2, this.1, this.2⟩
  · rw [List.pairwise_append]
    refine ⟨h.2, List.pairwise_map.mpr (he.1.imp fun h => .inr ⟨rfl, .inr ⟨rfl, h⟩⟩), fun a ma b mb => ?_⟩
    obtain ⟨r, l, e, rfl, q⟩ := ha a ma
    obtain ⟨e', me, rfl⟩ := List.mem_map.mp mb
    rcases q with q | ⟨q1, q2⟩
    · exact .inl q
    · exact .inr ⟨q1, .inl q2⟩
  · rcases List.mem_append.mp m with m | m
    · obtain ⟨r, l, e, rfl, q⟩ := ha w m
      exact ⟨r, l, e, rfl, by omega⟩
    · obtain ⟨e, me, rfl⟩ := List.mem_map.mp m
      exact ⟨i, j, e, rfl, by omega⟩
structure HallOk (L n : Int) (u : U) : Prop where
  ex : ∃ (s : Int) (W : List (List Int)) (kind : Str) (B : U), u = .tup [.int L, .int n, .int s, .tup (W.map tupI), .str kind, B] ∧ 0 ≤ s ∧ s < n ∧ WOk n L W ∧ U.str kind ∈ kinds4 ∧ ByOk n kind B
theorem wp_by {n : Int} {kind : Str} {st : Sto} {Q : U → Sto → Prop} (hk : U.str kind ∈ kinds4) (h : Hd tl st) (h0 : 0 ≤ n) (h1 : n < 100000) (k : ∀ u s, ByOk n kind u → Hd tl s → Q u s) : Wp (callM (L3 m__law_by) (consA (.ret (.loc 0)) (consA (.ret (.str kind)) (consA (.ret (.int n)) nilA)))) st Q :=
  .call (.consA (.ret (.consA (.ret (.consA (.ret (.nilA ((by_ok hk h h0 h1).mono fun u s ⟨a, hs⟩ => k u s a hs))))))))
theorem filt_ok {n c : Int} {st : Sto} {Q : U → Sto → Prop} (h : Hd tl st) (h0 : 0 ≤ n) (h1 : n < 100000) (c0 : 0 < c) (c1 : c < 100000) (q : ∀ (rs : List Int) (s : Sto), Rs n rs → (rs.length : Int) ≤ n → Hd tl s → Q (.lst (rs.map .int)) s) : Wp (lcW (rng1W (.ret (.int n))) (fun x => testW (op2 eqU (callM (L2' m__law_pick) (consA (.ret (.loc 0)) (consA (.ret (.int c)) nilA))) (.ret (.int 0)))) fun x => .ret x) st Q := by
  refine .lc (wp_rng h0 (by omega) (Wp.comp (fun i r st => ∃ rs : List Int, r = rs.map .int ∧ rs.Pairwise (· < ·) ∧ (∀ x ∈ rs, 0 ≤ x ∧ x < (i : Int) ∧ x < n) ∧ r.length ≤ i ∧ Hd tl st) ⟨[], rfl, .nil, (by simp), Nat.le_refl _, h⟩ ?_ ?_))
  · rintro i u r st e ⟨rs, rfl, pw, hb, hl, hd⟩
    obtain ⟨rfl, hi⟩ := rng_get e
    refine .test (.op2 (wp_pick hd c0 (by omega) fun k s k0 k1 hs => .ret ⟨_, eqU_int k 0, _, rfl, ?_⟩))
    split
    · refine .ret ⟨rs ++ [(i : Int)], by simp, ?_, ?_, by simpa using hl, hs⟩
      · rw [List.pairwise_append]
        exact ⟨pw, List.pairwise_singleton _ _, fun a ha b hb' => by rw [List.mem_singleton.mp hb']; exact (hb a ha).2.1⟩
      · intro x m
        rcases List.mem_append.mp m with m | m
        · have := hb x m; omega
        · rw [List.mem_singleton.mp m]; omega
    · exact ⟨rs, rfl, pw, fun x m => by have := hb x m; omega, by omega, hs⟩
  · rintro r st ⟨rs, rfl, pw, hb, hl, hd⟩
    have : (100000 : Nat) ≤ sizeLine := by decide
    simp only [List.length_map, List.length_range] at hl
    exact ⟨by rw [List.length_map]; omega, q rs st ⟨pw, fun x m => ⟨(hb x m).1, (hb x m).2.2⟩⟩ (by omega) hd⟩
theorem hall_ok {L m : Int} {st : Sto} (h : Hd tl st) (l0 : 1 ≤ L) (l1 : L ≤ 10) (m0 : 1 ≤ m) (m1 : m ≤ 100) : Wp (m__law_hall (.loc 0) (.int L) (.int m)) st fun u s => (∃ n : Int, 1 ≤ n ∧ n ≤ m ∧ HallOk L n u) ∧ Hd tl s := by
  have sz : (1000000 : Nat) ≤ sizeLine := by decide
  unfold m__law_hall
  refine .fn (.bind (.op2 (.ret (wp_pick h (by omega) (by omega) fun k s k0 k1 hs => ⟨.int (1 + k), rfl, ?_⟩))))
  generalize en : 1 + k = n
  have n0 : 1 ≤ n := by omega
  have n1 : n ≤ m := by omega
  refine .bind (.call (.consA (.ret (.consA (.lst (.consA (.ret (.consA (.ret (.consA (.ret (.consA (.ret (.nilA ⟨(by decide : 4 ≤ sizeLine), .nilA ((of_ok hs (by decide) (by decide)).mono ?_)⟩))))))))))))))
  rintro ku s ⟨hk, hs⟩
  obtain ⟨kind, rfl⟩ : ∃ kind, ku = .str kind := by
    simp only [List.mem_cons, List.not_mem_nil, or_false] at hk
    rcases hk with e | e | e | e <;> exact ⟨_, e⟩
  have hk4 : U.str kind ∈ kinds4 := hk
  refine .bind (.op2 (.ret (wp_pick hs (by decide) (by decide) fun k s k0 k1 hs => ⟨.int (2 + k), rfl, .bind (wp_pick hs (by decide) (by decide) fun f s f0 f1 hs => .bind (.lst (.nilA ⟨by decide, ?_⟩)))⟩)))
  show Wp _ _ _
  generalize ec : 2 + k = c
  have c0 : 2 ≤ c := by omega
  have c1 : c < 10 := by omega
  refine .seq (.bind (wp_rng (by omega) (by omega) (Wp.for (fun i s st => ∃ W : List (List Int), s = .lst (W.map tupI) ∧ WOk n L W ∧ Ahd i 0 W ∧ W.length ≤ i * 1000 ∧ Hd tl st) ⟨[], rfl, ⟨by simp, .nil⟩, (fun w m => nomatch m), by simp, hs⟩ ?_ ?_)))
  · rintro i u s st e ⟨W, rfl, hW, hA, hl, hd⟩
    obtain ⟨rfl, hi⟩ := rng_get e
    refine .seq (.bind (wp_rng (by omega) (by omega) (Wp.for (fun j s st => ∃ W : List (List Int), s = .lst (W.map tupI) ∧ WOk n L W ∧ Ahd i j W ∧ W.length ≤ i * 1000 + j * 100 ∧ Hd tl st) ⟨W, rfl, hW, hA, by omega, hd⟩ ?_ ?_)))
    · rintro j u s st e ⟨W, rfl, hW, hA, hl, hd⟩
      obtain ⟨rfl, hj⟩ := rng_get e
      refine .bind (Wp.mono (Q := fun u s => ∃ es : List Int, u = .lst (es.map .int) ∧ Rs n es ∧ es.length ≤ 100 ∧ Hd tl s) ?_ ?_)
      · exact filt_ok hd (by omega) (by omega) (by omega) (by omega) fun rs s hr hl hs => ⟨rs, rfl, hr, by omega, hs⟩
      rintro _ s ⟨es, rfl, he, hel, hs⟩
      refine .seq (Wp.mono (Q := fun o s => ∃ es : List Int, o = .nx (.lst (es.map .int)) ∧ Rs n es ∧ es.length ≤ 100 ∧ Hd tl s) ?_ ?_)
      · refine .ite (Wp.mono (Q := fun _ s => Hd tl s) ?_ ?_)
        · refine .or (.test (.op2 (.ret (.ret ⟨_, eqU_int f 2, _, rfl, ?_⟩))))
          split
          · exact hs
          · refine .and (.test (.op2 (.ret (.ret ⟨_, eqU_int f 1, _, rfl, ?_⟩))))
            split
            · exact .test (.op2 (.ret (.lst (.nilA ⟨by decide, ⟨_, eqU_nil es, _, rfl, hs⟩⟩))))
            · exact hs
        · intro b s hs
          split
          · refine .bind (.lst (.consA (wp_pick hs (by omega) (by omega) fun k s k0 k1 hs => .nilA ⟨(by decide : 1 ≤ sizeLine), .nx ⟨[k], rfl, ⟨List.pairwise_singleton _ _, fun r m => ?_⟩, (by decide : 1 ≤ 100), hs⟩⟩)))
            rw [List.mem_singleton.mp m]; exact ⟨k0, k1⟩
          · exact .nx ⟨es, rfl, he, hel, hs⟩
      rintro _ s ⟨es, rfl, he, hel, hs⟩
      show Wp _ _ _
      obtain ⟨w1, w2⟩ := wok_more hW hA ⟨by omega, hi⟩ ⟨by omega, hj⟩ he
      refine .bind (.op2 (.ret (.lc (.bind (.ret (.o (a := es.map .int) rfl (Wp.comp (fun k r st => r = (es.take k).map (fun e => tupI [(i : Int), (j : Int), e]) ∧ Hd tl st) ⟨rfl, hs⟩ ?_ ?_)))))))
      · rintro k u r st e ⟨rfl, hd⟩
        rw [List.getElem?_map] at e
        obtain ⟨x, ex, rfl⟩ := Option.map_eq_some_iff.mp e
        refine .ret (.tup (.consA (.ret (.consA (.ret (.consA (.ret (.nilA ⟨(by decide : 3 ≤ sizeLine), ?_, hd⟩))))))))
        rw [List.take_add_one, ex]
        simp [tupI]
      · rintro r st ⟨rfl, hd⟩
        rw [List.length_map, show (List.map U.int es).length = es.length from List.length_map _, List.take_length]
        refine ⟨by omega, _, if_pos (by rw [List.length_map, List.length_map]; omega), .nx ⟨W ++ es.map fun e => [(i : Int), (j : Int), e], by simp [Function.comp_def], w1, w2, ?_, hd⟩⟩
        rw [List.length_append, List.length_map]
        omega
    · rintro s st ⟨W, rfl, hW, hA, hl, hd⟩
      refine .nx ⟨W, rfl, hW, fun w m => ?_, ?_, hd⟩
      · obtain ⟨r, l, e, rfl, q⟩ := hA w m
        exact ⟨r, l, e, rfl, .inl (by omega)⟩
      · rw [List.length_map, List.length_range] at hl
        omega
  · rintro s st ⟨W, rfl, hW, hA, hl, hd⟩
    show Wp _ _ _
    refine .rt (.tup (.consA (.ret (.consA (.ret (.consA (wp_pick hd (by omega) (by omega) fun k s k0 k1 hs => .consA (.op1 (.ret ⟨_, rfl, .consA (.ret (.consA (wp_by hk4 hs (by omega) (by omega) fun B s hB hs => .nilA ⟨(by decide : 6 ≤ sizeLine), ?_⟩)))⟩)))))))))
    exact ⟨⟨n, n0, n1, k, W, kind, B, rfl, k0, k1, hW, hk4, hB⟩, hs⟩
theorem wp_ret {α : Type} {w : M α} {a : α} {st : Sto} {Q : α → Sto → Prop} (e : w = .ret a) (q : Q a st) : Wp w st Q := e ▸ .ret q
theorem comp_map {wt : U → M Bool} {we : U → M U} {f : U → U} : ∀ {us : List U}, (∀ u ∈ us, wt u = .ret true ∧ we u = .ret (f u)) → compM wt we us = .ret (us.map f)
  | [], _ => rfl
  | u :: us, h => by
    rw [compM, (h u List.mem_cons_self).1]
    show M.bind (we u) _ = _
    rw [(h u List.mem_cons_self).2]
    show M.bind (compM wt we us) _ = _
    rw [comp_map fun v m => h v (List.mem_cons_of_mem _ m)]
    rfl
theorem pd_row (ns : List Int) : pd (tupI ns) = some (.tuple (ns.map PyData.int)) := by simp [tupI, pd, pdAll_ints]
theorem rise_len : ∀ (rs : List Int) (lo n : Int), rs.Pairwise (· < ·) → (∀ r ∈ rs, lo ≤ r ∧ r < n) → (rs.length : Int) ≤ max 0 (n - lo)
  | [], lo, n, _, _ => by simp; omega
  | r :: rs, lo, n, pw, h => by
    obtain ⟨p1, p2⟩ := List.pairwise_cons.mp pw
    have ih := rise_len rs (r + 1) n p2 fun x m => ⟨by have := p1 x m; omega, (h x (List.mem_cons_of_mem _ m)).2⟩
    have hr := h r List.mem_cons_self
    rw [List.length_cons]
    omega
theorem Rs.len {n : Int} {rs : List Int} (h : Rs n rs) (h0 : 0 ≤ n) : (rs.length : Int) ≤ n := by
  have := rise_len rs 0 n h.1 h.2
  omega
abbrev Dc : Type := List (Int × List Int)
def dKs (D : Dc) : List Key := D.map fun p => Sum.inl p.1
def dVs (D : Dc) : List U := D.map fun p => U.lst (p.2.map .int)
def dU (D : Dc) : U := .dct (dKs D) (dVs D)
def dAdd (l e : Int) : Dc → Dc
  | [] => [(l, [e])]
  | (k, xs) :: r => if k = l then (k, xs ++ [e]) :: r else (k, xs) :: dAdd l e r
def dGet (l : Int) : Dc → List Int
  | [] => []
  | (k, xs) :: r => if k = l then xs else dGet l r
theorem dGet_add (l l' e : Int) : ∀ D : Dc, dGet l (dAdd l' e D) = if l' = l then dGet l D ++ [e] else dGet l D
  | [] => by
    simp only [dAdd, dGet]
    split <;> simp
  | (k, xs) :: r => by
    simp only [dAdd]
    by_cases h : k = l'
    · rw [if_pos h]
      simp only [dGet]
      by_cases h2 : k = l
      · rw [if_pos h2, if_pos h2, if_pos (by omega)]
      · rw [if_neg h2, if_neg h2, if_neg (by omega)]
    · rw [if_neg h]
      simp only [dGet]
      by_cases h2 : k = l
      · rw [if_pos h2, if_pos h2, if_neg (by omega)]
      · rw [if_neg h2, if_neg h2, dGet_add l l' e r]
theorem idx_none {l e : Int} : ∀ {D : Dc}, idxK (Sum.inl l : Key) (dKs D) = none → dAdd l e D = D ++ [(l, [e])] ∧ dGet l D = []
  | [], _ => ⟨rfl, rfl⟩
  | (k, xs) :: r, h => by
    by_cases hk : k = l
    · subst hk
      simp [dKs, idxK] at h
    · have hne : ¬ (Sum.inl k : Key) = Sum.inl l := fun z => hk (Sum.inl.inj z)
      simp only [dKs, List.map_cons, idxK, if_neg hne, Option.map_eq_none_iff] at h
      obtain ⟨h1, h2⟩ := idx_none (e := e) (D := r) h
      simp only [dAdd, dGet, if_neg hk, h1, h2]
      exact ⟨rfl, trivial⟩
theorem idx_some {l e : Int} : ∀ {D : Dc} {j : Nat}, idxK (Sum.inl l : Key) (dKs D) = some j → (dVs D)[j]? = some (.lst ((dGet l D).map .int)) ∧ dKs (dAdd l e D) = dKs D ∧ dVs (dAdd l e D) = (dVs D).set j (.lst ((dGet l D ++ [e]).map .int))
  | [], _, h => by cases h
  | (k, xs) :: r, j, h => by
    by_cases hk : k = l
    · subst hk
      simp only [dKs, List.map_cons, idxK, if_true] at h
      cases h
      simp only [dAdd, dGet, if_true]
      exact ⟨rfl, rfl, rfl⟩
    · have hne : ¬ (Sum.inl k : Key) = Sum.inl l := fun z => hk (Sum.inl.inj z)
      simp only [dKs, List.map_cons, idxK, if_neg hne, Option.map_eq_some_iff] at h
      obtain ⟨i, h1, rfl⟩ := h
      obtain ⟨q1, q2, q3⟩ := idx_some (e := e) (D := r) h1
      simp only [dAdd, dGet, if_neg hk]
      refine ⟨by simpa [dVs] using q1, ?_, ?_⟩
      · show Sum.inl k :: dKs (dAdd l e r) = Sum.inl k :: dKs r
        rw [q2]
      · show U.lst (xs.map .int) :: dVs (dAdd l e r) = _
        rw [q3]; rfl
theorem sd_eq {l e : Int} {D : Dc} (h1 : D.length < 100000) (h2 : (dGet l D).length < 100000) : sdAppU (dU D) (.int l) (.int e) = some (dU (dAdd l e D)) := by
  have sz : (1000000 : Nat) ≤ sizeLine := by decide
  unfold dU
  simp only [sdAppU, keyU]
  rw [if_pos ⟨by simp only [dKs, List.length_map]; omega, rfl⟩]
  cases h : idxK (Sum.inl l : Key) (dKs D) with
  | none =>
    simp only
    rw [(idx_none (e := e) h).1]
    simp [dKs, dVs]
  | some j =>
    obtain ⟨q1, q2, q3⟩ := idx_some (e := e) h
    simp only [q1]
    rw [if_pos ⟨by rw [List.length_map]; omega, leaf_ints _⟩, q2, q3]
    simp
def oneEnd (r l : Int) : List Int → Option Int
  | [r', l', e] => if r' = r ∧ l' = l then some e else none
  | _ => none
def endsOf (W : List (List Int)) (r l : Int) : List Int := W.filterMap (oneEnd r l)
def hNames : List Str := ["letters", "rooms", "start", "ways", "kind", "by", "goals"]
def hallObj (L n s : Int) (W : List (List Int)) (kind : Str) (B : U) (G : List Dc) : U := .obj "Hall" hNames [.int L, .int n, .int s, .tup (W.map tupI), .str kind, B, .lst (G.map dU)]
structure GOk (n : Int) (W : List (List Int)) (G : List Dc) : Prop where
  len : (G.length : Int) = n
  at_ : ∀ (r : Nat) (D : Dc), G[r]? = some D → D.length ≤ W.length ∧ ∀ l : Int, dGet l D = endsOf W r l
theorem ends_len (W : List (List Int)) (r l : Int) : (endsOf W r l).length ≤ W.length := List.length_filterMap_le _ _
theorem ends_snoc (W : List (List Int)) (a b e r l : Int) : endsOf (W ++ [[a, b, e]]) r l = if a = r ∧ b = l then endsOf W r l ++ [e] else endsOf W r l := by
  unfold endsOf
  rw [List.filterMap_append]
  by_cases h : a = r ∧ b = l
  · simp [oneEnd, h]
  · simp [oneEnd, h]
theorem dAdd_len (l e : Int) : ∀ D : Dc, (dAdd l e D).length ≤ D.length + 1
  | [] => by simp [dAdd]
  | (k, xs) :: r => by
    simp only [dAdd]
    split
    · simp
    · have := dAdd_len l e r
      simp only [List.length_cons]
      omega
theorem gok_snoc {n a b e : Int} {W : List (List Int)} {G : List Dc} {D : Dc} (h : GOk n W G) (ha : 0 ≤ a) (hD : G[a.toNat]? = some D) : GOk n (W ++ [[a, b, e]]) (G.set a.toNat (dAdd b e D)) := by
  refine ⟨by rw [List.length_set]; exact h.len, fun r D' e' => ?_⟩
  rw [List.length_append]
  by_cases hr : a.toNat = r
  · subst hr
    rw [List.getElem?_set_self (getElem?_lt hD)] at e'
    cases e'
    obtain ⟨h1, h2⟩ := h.at_ _ D hD
    refine ⟨by have := dAdd_len b e D; simp; omega, fun l => ?_⟩
    rw [dGet_add, ends_snoc, h2 l]
    have : ((a.toNat : Nat) : Int) = a := by omega
    rw [this]
    by_cases hb : b = l
    · rw [if_pos hb, if_pos ⟨rfl, hb⟩]
    · rw [if_neg hb, if_neg fun z => hb z.2]
  · rw [List.getElem?_set_ne hr] at e'
    obtain ⟨h1, h2⟩ := h.at_ r D' e'
    refine ⟨by omega, fun l => ?_⟩
    rw [ends_snoc, if_neg (by omega), h2 l]
theorem ixC_at {i j : Nat} {us : List U} {u : U} {f : U → U} (h : us[j]? = some u) : ixC (i, (.lst us, f)) (.int (j : Nat)) = some (i, (u, fun x => f (.lst (us.set j x)))) := by
  have hl := getElem?_lt h
  simp only [ixC, ixH]
  rw [show ixN us.length ((j : Nat) : Int) = some j from by unfold ixN; rw [if_pos (by omega), if_pos (by omega)]; rfl]
  simp only [h]
  rfl
theorem loc_at (ms : Sto) (x : U) : locM (.loc ms.length) (ms ++ [x]) = some (.ok (ms.length, (x, id)), ms ++ [x]) := by
  have : (ms ++ [x])[ms.length]? = some x := by simp
  unfold locM
  simp only [this]
theorem put_at (ms : Sto) (x y : U) : putC ms.length y (ms ++ [x]) = some (.ok (), ms ++ [y]) := by
  unfold putC
  rw [if_pos (by simp)]
  simp
theorem wp_loc {ms : Sto} {x : U} {Q : Cl → Sto → Prop} (q : Q (ms.length, (x, id)) (ms ++ [x])) : Wp (locM (.loc ms.length)) (ms ++ [x]) Q := .eq (loc_at ms x) q
theorem wp_put {ms : Sto} {x y : U} {Q : Unit → Sto → Prop} (q : Q () (ms ++ [y])) : Wp (putC ms.length y) (ms ++ [x]) Q := .eq (put_at ms x y) q
theorem bools_map : ∀ bs : List Bool, boolsU (bs.map U.bl) = some bs
  | [] => rfl
  | b :: bs => by rw [List.map_cons, boolsU, bools_map bs]; rfl
theorem all_at (bs : List Bool) : allU (.lst (bs.map .bl)) = some (.bl (bs.all id)) := by
  show (boolsU (bs.map .bl)).map _ = _
  rw [bools_map]; rfl
theorem comp_id {wt : U → M Bool} {we : U → M U} {g : U → U} {us : List U} (h : ∀ x ∈ us, wt x = .ret true ∧ we x = .ret (g x)) : compM wt we us = .ret (us.map g) := by
  have := comp_eq (c := fun x : U => x) (d := fun x : U => x) (wt := wt) (we := we) (p := fun _ => true) (g := g) (xs := us) fun x m => ⟨(h x m).1, fun _ => (h x m).2⟩
  rw [List.filter_eq_self.mpr (fun _ _ => rfl), List.map_id', List.map_id'] at this
  exact this
theorem vs_forU {S L : Type} {σ : Type} {e : σ → S} {f : U → S → M (Out S S)} {Q : Out S L → Sto → Prop} {xs : List U} {st : Sto} (I : List U → σ → Sto → Prop) {s0 : S} {t0 : σ} (he : s0 = e t0) (h0 : I [] t0 st)
    (hs : ∀ (pre : List U) (x : U) (post : List U) (s : σ) (st : Sto), xs = pre ++ x :: post → I pre s st → Wp (f x (e s)) st (ForK (fun s' st' => ∃ t, s' = e t ∧ I (pre ++ [x]) t st') Q))
    (hd : ∀ s st, I xs s st → Q (.nx (e s)) st) : Wp (forO f xs s0) st Q := by
  have := vs_for (c := fun x : U => x) (xs := xs) I he h0 hs hd
  rwa [List.map_id'] at this
def numI : U → Bool
  | .int _ => true
  | _ => false
theorem whole_u {u : U} (h : dataU u = true) : m_is_whole u = .ret (.bl (numI u)) := by
  refine eq_of_wp fun st => ?_
  unfold m_is_whole
  walk_at "v"
  refine wo_eq (isi_iu h) ?_
  walk_at "v"
  cases u with
  | int a =>
    refine if_t ?_
    walk_at "v"
    refine wo_eq (isi_bu h) ?_
    walk_at "v"
    exact ⟨rfl, rfl⟩
  | bl b =>
    refine if_t ?_
    walk_at "v"
    refine wo_eq (isi_bu h) ?_
    walk_at "v"
    exact ⟨rfl, rfl⟩
  | non => refine if_f ?_; exact ⟨rfl, rfl⟩
  | str _ => refine if_f ?_; exact ⟨rfl, rfl⟩
  | tup _ => refine if_f ?_; exact ⟨rfl, rfl⟩
  | lst _ => refine if_f ?_; exact ⟨rfl, rfl⟩
  | dct _ _ => refine if_f ?_; exact ⟨rfl, rfl⟩
  | _ => simp [dataU] at h
theorem below_u {u : U} {n : Int} (h : dataU u = true) : m_is_below u (.int n) = .ret (.bl (numU n u)) := by
  refine eq_of_wp fun st => ?_
  unfold m_is_below
  walk_at "v"
  refine vs_eq (whole_u h) ?_
  walk_at "v"
  cases u with
  | int a =>
    refine if_t ?_
    walk_at "v"
    refine if_any (fun q => ?_) fun q => ?_
    · walk_at "v"
      exact ⟨by show _ = U.bl (decide (0 ≤ a) && decide (a < n)); rw [q]; rfl, rfl⟩
    · walk_at "v"
      exact ⟨by show _ = U.bl (decide (0 ≤ a) && decide (a < n)); rw [q]; rfl, rfl⟩
  | bl b => refine if_f ?_; exact ⟨rfl, rfl⟩
  | non => refine if_f ?_; exact ⟨rfl, rfl⟩
  | str _ => refine if_f ?_; exact ⟨rfl, rfl⟩
  | tup _ => refine if_f ?_; exact ⟨rfl, rfl⟩
  | lst _ => refine if_f ?_; exact ⟨rfl, rfl⟩
  | dct _ _ => refine if_f ?_; exact ⟨rfl, rfl⟩
  | _ => simp [dataU] at h
mutual
def plU : U → Bool
  | .non => true
  | .bl _ => true
  | .int _ => true
  | .tup us => plA us
  | .lst us => plA us
  | .dct [] [] => true
  | _ => false
def plA : List U → Bool
  | [] => true
  | u :: us => plU u && plA us
end
def leafG : U → Prop
  | .non => True
  | .bl _ => True
  | .int i => i.natAbs ≤ 200000000
  | .str s => okS s ∧ s.cps.size ≤ 700
  | .lst us => TgS 6000 3 us ∧ plA us = true
  | .dct ks us => ks = [] ∧ us = []
  | _ => False
inductive Gd : U → Prop
  | leaf {u : U} (h : leafG u) : Gd u
  | tup {us : List U} (h : ∀ x ∈ us, Gd x) : Gd (.tup us)
theorem Gd.mem {us : List U} (h : Gd (.tup us)) : ∀ x ∈ us, Gd x := by
  cases h with
  | leaf h => exact h.elim
  | tup h => exact h
inductive At : U → List Int → U → Prop
  | nil {t : U} : At t [] t
  | cons {us : List U} {x u : U} {path : List Int} {a : Int} (a0 : 0 ≤ a) (hx : us[a.toNat]? = some x) (hp : At x path u) : At (.tup us) (a :: path) u
theorem tupk {w k : Nat} {us : List U} (h : Tg w k (.tup us)) : ∃ k', k = k' + 1 ∧ TgS w k' us := by
  cases k with
  | zero =>
    exfalso
    obtain ⟨hd, d, h1, h2, h3, h4, h5⟩ := h
    obtain ⟨ds, e1, rfl⟩ := Option.map_eq_some_iff.mp (show (pdsD us).map PyData.tuple = some d from h1)
    simp only [PyData.depth] at h3
    omega
  | succ k => exact ⟨k, rfl, h.parts⟩
theorem At.tg {t u : U} {p : List Int} (h : At t p u) {w k : Nat} : Tg w k t → Tg w k u := by
  induction h with
  | nil => exact id
  | cons a0 hx hp ih => exact fun h => ih (h.mem _ (List.mem_of_getElem? hx))
theorem At.gd {t u : U} {p : List Int} (h : At t p u) : Gd t → Gd u := by
  induction h with
  | nil => exact id
  | cons a0 hx hp ih => exact fun h => ih (h.mem _ (List.mem_of_getElem? hx))
theorem At.len {t u : U} {p : List Int} (h : At t p u) : ∀ {w k : Nat}, Tg w k t → p.length ≤ k ∧ (isTu u = true → p.length + 1 ≤ k) := by
  induction h with
  | @nil t =>
    intro w k h
    refine ⟨Nat.zero_le _, fun ht => ?_⟩
    cases t with
    | tup us => obtain ⟨k', rfl, _⟩ := tupk h; simp
    | _ => simp [isTu] at ht
  | cons a0 hx hp ih =>
    intro w k h
    obtain ⟨k', rfl, hu⟩ := tupk h
    obtain ⟨w1, h1, _⟩ := hu.mem _ (List.mem_of_getElem? hx)
    have := ih h1
    simp only [List.length_cons]
    exact ⟨by omega, fun h => by have := this.2 h; omega⟩
theorem At.snoc {t u : U} {p : List Int} (h : At t p u) : ∀ {us : List U} {a : Int} {x : U}, u = .tup us → 0 ≤ a → us[a.toNat]? = some x → At t (p ++ [a]) x := by
  induction h with
  | nil => rintro us a x rfl a0 hx; exact .cons a0 hx .nil
  | cons b0 hy hp ih => exact fun e a0 hx => .cons b0 hy (ih e a0 hx)
def isSu : U → Bool
  | .str _ => true
  | _ => false
theorem isi_su {u : U} (h : dataU u = true) : isiU u "str" = some (.bl (isSu u)) := by cases u <;> first | rfl | simp [dataU] at h
def ltB (a b : U) : Bool := match ltU a b with
  | some (.bl c) => c
  | _ => false
def LtOk (a b : U) : Prop := ∃ c, ltU a b = some (.bl c)
theorem LtOk.at {a b : U} (h : LtOk a b) : ltU a b = some (.bl (ltB a b)) := by
  obtain ⟨c, e⟩ := h
  unfold ltB
  rw [e]
def risL : List U → List Bool
  | a :: b :: r => ltB a b :: risL (b :: r)
  | _ => []
def risB (us : List U) : Bool := (risL us).all id
def LtAll : List U → Prop
  | a :: b :: r => LtOk a b ∧ LtAll (b :: r)
  | _ => True
theorem ltAll_of {us : List U} (h : ∀ a ∈ us, ∀ b ∈ us, LtOk a b) : LtAll us := by
  induction us with
  | nil => trivial
  | cons a r ih =>
    cases r with
    | nil => trivial
    | cons b r => exact ⟨h a (by simp) b (by simp), ih fun x mx y my => h x (List.mem_cons_of_mem _ mx) y (List.mem_cons_of_mem _ my)⟩
theorem comp_zip : ∀ {us : List U}, LtAll us → compM (fun e => un2 e fun a b => .ret true) (fun e => un2 e fun a b => op2 ltU (.ret a) (.ret b)) (zipL us (us.drop 1)) = .ret ((risL us).map .bl)
  | [], _ => rfl
  | [_], _ => rfl
  | a :: b :: r, h => by
    obtain ⟨h1, h2⟩ := h
    have ih := comp_zip h2
    have ez : zipL (a :: b :: r) ((a :: b :: r).drop 1) = .tup [a, b] :: zipL (b :: r) ((b :: r).drop 1) := rfl
    rw [ez]
    unfold compM
    rw [ih]
    have e1 : (un2 (.tup [a, b]) fun a b => op2 ltU (.ret a) (.ret b)) = .ret (.bl (ltB a b)) := by
      show M.o (ltU a b) = _
      rw [h1.at]; rfl
    rw [e1]
    rfl
theorem rising_b {us : List U} (hl : us.length ≤ 1000000) (h : LtAll us) : m_are_rising (.tup us) = .ret (.bl (risB us)) := by
  have sz : (16000000 : Nat) ≤ sizeLine := by decide
  unfold m_are_rising
  have hz : zipW (.ret (.tup us)) (slW (.ret (.tup us)) (someP (.ret (.int 1))) noP) = .ret (zipL us (us.drop 1)) := by
    show M.o (some (zipL us (EL.cut us (some ((1 : Nat) : Int)) none))) = _
    rw [EL.cut_from]; rfl
  have key : lcW (zipW (.ret (.tup us)) (slW (.ret (.tup us)) (someP (.ret (.int 1))) noP)) (fun e => un2 e fun a b => .ret true) (fun e => un2 e fun a b => op2 ltU (.ret a) (.ret b)) = .ret (.lst ((risL us).map .bl)) := by
    refine eq_of_wp fun st => ?_
    refine Wp.lc (.eq (by rw [hz]; rfl) (.eq (by rw [comp_zip h]; rfl) ⟨?_, rfl, rfl⟩))
    have : ∀ xs : List U, (risL xs).length ≤ xs.length := fun xs => by
      induction xs with
      | nil => exact Nat.le_refl _
      | cons a r ih =>
        cases r with
        | nil => simp [risL]
        | cons b r => simp only [risL, List.length_cons] at ih ⊢; omega
    rw [List.length_map]
    have := this us
    omega
  rw [key]
  show (M.bind (rtO (M.o (allU (.lst ((risL us).map .bl))))) _) = _
  rw [all_at]
  rfl
theorem for_all {f : U → Unit → M (Out Unit Unit)} {good : U → Bool} {us : List U} {st : Sto} {Q : Out Unit Unit → Sto → Prop} (h : ∀ x ∈ us, ∀ st, Wp (f x ()) st fun o s => s = st ∧ o = if good x = true then .nx () else .rt (.bl false))
    (h1 : us.all good = true → Q (.nx ()) st) (h2 : us.all good = false → Q (.rt (.bl false)) st) : Wp (forO f us ()) st Q := by
  refine vs_forU (e := fun _ : Unit => ()) (t0 := ()) (fun pre _ st' => st' = st ∧ pre.all good = true) rfl ⟨rfl, rfl⟩ ?_ ?_
  · rintro pre x post _ s ex ⟨rfl, hp⟩
    refine (h x (by rw [ex]; simp) s).mono ?_
    rintro o s2 ⟨rfl, rfl⟩
    by_cases hg : good x = true
    · rw [if_pos hg]
      exact ⟨(), rfl, rfl, by rw [List.all_append, hp]; simp [hg]⟩
    · rw [if_neg hg]
      exact h2 (by rw [ex, List.all_append, List.all_cons]; simp [hg])
  · rintro _ s ⟨rfl, hp⟩
    exact h1 hp
def numR (lo hi : Int) : U → Bool
  | .int i => decide (lo ≤ i) && decide (i < hi)
  | _ => false
theorem numR_0 {n : Int} {u : U} : numR 0 n u = numU n u := by cases u <;> rfl
theorem lwhole_b {u : U} {lo hi : Int} (h : dataU u = true) : m__law_whole u (.int lo) (.int hi) = .ret (.bl (numR lo hi u)) := by
  refine eq_of_wp fun st => ?_
  unfold m__law_whole
  walk_at "v"
  refine wo_eq (isi_iu h) ?_
  walk_at "v"
  cases u with
  | int a =>
    refine if_t ?_
    walk_at "v"
    refine wo_eq (isi_bu h) ?_
    walk_at "v"
    refine if_t ?_
    walk_at "v"
    refine if_any (fun q => ?_) fun q => ?_
    · walk_at "v"
      exact ⟨by show _ = U.bl (decide (lo ≤ a) && decide (a < hi)); rw [q]; rfl, rfl⟩
    · walk_at "v"
      exact ⟨by show _ = U.bl (decide (lo ≤ a) && decide (a < hi)); rw [q]; rfl, rfl⟩
  | bl b =>
    refine if_t ?_
    walk_at "v"
    refine wo_eq (isi_bu h) ?_
    walk_at "v"
    refine if_f ?_
    exact ⟨rfl, rfl⟩
  | non => refine if_f ?_; exact ⟨rfl, rfl⟩
  | str _ => refine if_f ?_; exact ⟨rfl, rfl⟩
  | tup _ => refine if_f ?_; exact ⟨rfl, rfl⟩
  | lst _ => refine if_f ?_; exact ⟨rfl, rfl⟩
  | dct _ _ => refine if_f ?_; exact ⟨rfl, rfl⟩
  | _ => simp [dataU] at h
def roomsB (n : Int) : U → Bool
  | .tup us => us.all (numU n) && risB us
  | _ => false
theorem ltOk_num {n m : Int} {a b : U} (ha : numU n a = true) (hb : numU m b = true) : LtOk a b := by
  cases a with
  | int i =>
    cases b with
    | int j => exact ⟨_, rfl⟩
    | _ => simp [numU] at hb
  | _ => simp [numU] at ha
theorem ltAll_num {n : Int} {us : List U} (h : us.all (numU n) = true) : LtAll us := ltAll_of fun a ma b mb => ltOk_num (List.all_eq_true.mp h a ma) (List.all_eq_true.mp h b mb)
theorem rooms_b {n : Int} {u : U} {w k : Nat} (hu : Tg w k u) (hw : w ≤ 1000000) : m_are_rooms (.int n) u = .ret (.bl (roomsB n u)) := by
  have sz : (16000000 : Nat) ≤ sizeLine := by decide
  refine eq_of_wp fun st => ?_
  unfold m_are_rooms
  walk_at "v"
  unfold m_are_rising_below
  walk_at "v"
  refine wo_eq (isi_tu hu.dt) ?_
  walk_at "v"
  have hd := hu.dt
  cases u with
  | tup us =>
    have hl := hu.len
    refine if_t ?_
    walk_at "v"
    refine vs_eq (comp_id (g := fun u => .bl (numU n u)) fun u m => ⟨rfl, below_u (data_mem hd u m)⟩) ⟨by rw [List.length_map]; omega, ?_⟩
    refine wo_eq (a := .bl (us.all (numU n))) (by
      have := all_at (us.map (numU n))
      rw [List.map_map, List.all_map] at this
      exact this) ?_
    walk_at "v"
    refine if_any (fun q => ?_) fun q => ?_
    · walk_at "v"
      refine vs_eq (rising_b (by omega) (ltAll_num q)) ?_
      walk_at "v"
      exact ⟨by show _ = U.bl (us.all (numU n) && risB us); rw [q]; rfl, rfl⟩
    · walk_at "v"
      exact ⟨by show _ = U.bl (us.all (numU n) && risB us); rw [q]; rfl, rfl⟩
  | non => refine if_f ?_; exact ⟨rfl, rfl⟩
  | bl _ => refine if_f ?_; exact ⟨rfl, rfl⟩
  | int _ => refine if_f ?_; exact ⟨rfl, rfl⟩
  | str _ => refine if_f ?_; exact ⟨rfl, rfl⟩
  | lst _ => refine if_f ?_; exact ⟨rfl, rfl⟩
  | dct _ _ => refine if_f ?_; exact ⟨rfl, rfl⟩
  | _ => simp [dataU] at hd
theorem lrooms_b {n : Int} {u : U} {w k : Nat} (hu : Tg w k u) (hw : w ≤ 1000000) : m__law_are_rooms (.int n) u = .ret (.bl (roomsB n u)) := by
  have sz : (16000000 : Nat) ≤ sizeLine := by decide
  refine eq_of_wp fun st => ?_
  unfold m__law_are_rooms
  walk_at "v"
  refine wo_eq (isi_tu hu.dt) ?_
  walk_at "v"
  have hd := hu.dt
  cases u with
  | tup us =>
    have hl := hu.len
    refine if_t ?_
    walk_at "v"
    refine vs_eq (comp_id (g := fun u => .bl (numU n u)) fun u m => ⟨rfl, by rw [← numR_0]; exact lwhole_b (data_mem hd u m)⟩) ⟨by rw [List.length_map]; omega, ?_⟩
    refine wo_eq (a := .bl (us.all (numU n))) (by
      have := all_at (us.map (numU n))
      rw [List.map_map, List.all_map] at this
      exact this) ?_
    walk_at "v"
    refine if_any (fun q => ?_) fun q => ?_
    · walk_at "v"
      refine vs_eq (rising_b (by omega) (ltAll_num q)) ?_
      walk_at "v"
      exact ⟨by show _ = U.bl (us.all (numU n) && risB us); rw [q]; rfl, rfl⟩
    · walk_at "v"
      exact ⟨by show _ = U.bl (us.all (numU n) && risB us); rw [q]; rfl, rfl⟩
  | non => refine if_f ?_; exact ⟨rfl, rfl⟩
  | bl _ => refine if_f ?_; exact ⟨rfl, rfl⟩
  | int _ => refine if_f ?_; exact ⟨rfl, rfl⟩
  | str _ => refine if_f ?_; exact ⟨rfl, rfl⟩
  | lst _ => refine if_f ?_; exact ⟨rfl, rfl⟩
  | dct _ _ => refine if_f ?_; exact ⟨rfl, rfl⟩
  | _ => simp [dataU] at hd
def pairB (n : Int) : U → Bool
  | .tup [a, b] => roomsB n a && roomsB n b
  | _ => false
def pairsB (n : Int) : U → Bool
  | .tup us => us.all (pairB n)
  | _ => false
def ranksB (n : Int) : U → Bool
  | .tup us => decide ((us.length : Int) = n) && us.all (numU 1000000000)
  | _ => false
def wayB (L n : Int) : U → Bool
  | .tup [a, b, c] => numU n a && (numU L b && numU n c)
  | _ => false
def waysB (L n : Int) : U → Bool
  | .tup us => us.all (wayB L n) && risB us
  | _ => false
theorem pairs_b {n : Int} {u : U} {w k : Nat} (hu : Tg w k u) (hw : w ≤ 1000000) : m_are_pairs (.int n) u = .ret (.bl (pairsB n u)) := by
  have sz : (16000000 : Nat) ≤ sizeLine := by decide
  refine eq_of_wp fun st => ?_
  unfold m_are_pairs
  walk_at "v"
  refine wo_eq (isi_tu hu.dt) ?_
  walk_at "v"
  have hd := hu.dt
  cases u with
  | tup us =>
    refine if_f ?_
    walk_at "v"
    refine for_all (good := pairB n) (fun x m st => ?_) (fun h => ?_) fun h => ?_
    · have hx := hu.mem x m
      have hxd := hx.dt
      walk_at "v"
      refine wo_eq (isi_tu hxd) ?_
      walk_at "v"
      cases x with
      | tup vs =>
        refine if_f ?_
        walk_at "v"
        match vs with
        | [a, b] =>
          have ha := hx.mem a (by simp)
          have hb := hx.mem b (by simp)
          refine if_nn rfl ?_
          walk_at "v"
          refine vs_eq (comp_id (g := fun u => .bl (roomsB n u)) fun u m => ⟨rfl, rooms_b (hx.mem u m) hw⟩) ⟨by show 2 ≤ sizeLine; decide, ?_⟩
          refine wo_eq (all_at [roomsB n a, roomsB n b]) ?_
          walk_at "v"
          refine if_any (fun q => ?_) fun q => ?_
          · walk_at "v"
            refine ⟨rfl, ?_⟩
            have e : pairB n (.tup [a, b]) = false := by
              have q : (roomsB n a && (roomsB n b && true)) = false := by rw [Bool.not_eq_true'] at q; exact q
              show (roomsB n a && roomsB n b) = false
              rw [Bool.and_true] at q; exact q
            rw [e]; rfl
          · walk_at "v"
            refine ⟨rfl, ?_⟩
            have e : pairB n (.tup [a, b]) = true := by
              have q : (roomsB n a && (roomsB n b && true)) = true := by simpa using q
              show (roomsB n a && roomsB n b) = true
              rw [Bool.and_true] at q; exact q
            rw [e]; rfl
        | [] => refine if_np (by simp) ?_; walk_at "v"; exact ⟨rfl, rfl⟩
        | [_] => refine if_np (by simp) ?_; walk_at "v"; exact ⟨rfl, rfl⟩
        | _ :: _ :: _ :: r =>
          refine if_np (by simp only [List.length_cons]; omega) ?_
          walk_at "v"
          exact ⟨rfl, rfl⟩
      | non => refine if_t ?_; walk_at "v"; exact ⟨rfl, rfl⟩
      | bl _ => refine if_t ?_; walk_at "v"; exact ⟨rfl, rfl⟩
      | int _ => refine if_t ?_; walk_at "v"; exact ⟨rfl, rfl⟩
      | str _ => refine if_t ?_; walk_at "v"; exact ⟨rfl, rfl⟩
      | lst _ => refine if_t ?_; walk_at "v"; exact ⟨rfl, rfl⟩
      | dct _ _ => refine if_t ?_; walk_at "v"; exact ⟨rfl, rfl⟩
      | _ => simp [dataU] at hxd
    · walk_at "v"
      exact ⟨by show _ = U.bl (us.all (pairB n)); rw [h], rfl⟩
    · exact ⟨by show _ = U.bl (us.all (pairB n)); rw [h], rfl⟩
  | non => refine if_t ?_; walk_at "v"; exact ⟨rfl, rfl⟩
  | bl _ => refine if_t ?_; walk_at "v"; exact ⟨rfl, rfl⟩
  | int _ => refine if_t ?_; walk_at "v"; exact ⟨rfl, rfl⟩
  | str _ => refine if_t ?_; walk_at "v"; exact ⟨rfl, rfl⟩
  | lst _ => refine if_t ?_; walk_at "v"; exact ⟨rfl, rfl⟩
  | dct _ _ => refine if_t ?_; walk_at "v"; exact ⟨rfl, rfl⟩
  | _ => simp [dataU] at hd
def smU' : U → Bool
  | .int i => decide (i < 1000000000)
  | _ => true
def smB : U → Bool
  | .tup us => us.all smU'
  | _ => true
theorem ranks_b {n : Int} {u : U} {w k : Nat} (hu : Tg w k u) (hw : w ≤ 1000000) (hs : smB u = true) : m_are_ranks (.int n) u = .ret (.bl (ranksB n u)) := by
  have sz : (16000000 : Nat) ≤ sizeLine := by decide
  refine eq_of_wp fun st => ?_
  unfold m_are_ranks
  walk_at "v"
  refine wo_eq (isi_tu hu.dt) ?_
  walk_at "v"
  have hd := hu.dt
  cases u with
  | tup us =>
    have hl := hu.len
    refine if_t ?_
    walk_at "v"
    refine if_dec (fun q => ?_) fun q => ?_
    · walk_at "v"
      have one : ∀ u ∈ us, (andW (callM (L1 m_is_whole) (consA (.ret u) nilA)) (op2 geU (.ret u) (.ret (.int 0)))) = .ret (.bl (numU 1000000000 u)) := fun u m => by
        refine eq_of_wp fun st => ?_
        walk_at "v"
        refine vs_eq (whole_u (data_mem hd u m)) ?_
        walk_at "v"
        have hsu := List.all_eq_true.mp hs u m
        cases u with
        | int a =>
          refine if_t ?_
          walk_at "v"
          have h1 : a < 1000000000 := by simpa [smU'] using hsu
          refine ⟨?_, rfl⟩
          show U.bl (decide (0 ≤ a)) = U.bl (decide (0 ≤ a) && decide (a < 1000000000))
          rw [decide_eq_true h1, Bool.and_true]
        | _ => refine if_f ?_; exact ⟨rfl, rfl⟩
      refine vs_eq (comp_id (g := fun u => .bl (numU 1000000000 u)) fun u m => ⟨rfl, one u m⟩) ⟨by rw [List.length_map]; omega, ?_⟩
      refine wo_eq (a := .bl (us.all (numU 1000000000))) (by
        have := all_at (us.map (numU 1000000000))
        rw [List.map_map, List.all_map] at this
        exact this) ?_
      walk_at "v"
      exact ⟨by show _ = U.bl (decide ((us.length : Int) = n) && us.all (numU 1000000000)); rw [decide_eq_true q]; rfl, rfl⟩
    · exact ⟨by show _ = U.bl (decide ((us.length : Int) = n) && us.all (numU 1000000000)); rw [decide_eq_false q]; rfl, rfl⟩
  | non => refine if_f ?_; exact ⟨rfl, rfl⟩
  | bl _ => refine if_f ?_; exact ⟨rfl, rfl⟩
  | int _ => refine if_f ?_; exact ⟨rfl, rfl⟩
  | str _ => refine if_f ?_; exact ⟨rfl, rfl⟩
  | lst _ => refine if_f ?_; exact ⟨rfl, rfl⟩
  | dct _ _ => refine if_f ?_; exact ⟨rfl, rfl⟩
  | _ => simp [dataU] at hd
theorem lt_rows (a b c a' b' c' : Int) : LtOk (tupI [a, b, c]) (tupI [a', b', c']) := by
  refine ⟨PySem.W.dataLt (.tuple ([a, b, c].map PyData.int)) (.tuple ([a', b', c'].map PyData.int)), ?_⟩
  have e0 : ltU (tupI [a, b, c]) (tupI [a', b', c']) = (match pd (tupI [a, b, c]), pd (tupI [a', b', c']) with
    | some d, some e => if PySem.W.alike d e = true ∧ notNone d = true ∧ d.depth ≤ 64 then some (U.bl (PySem.W.dataLt d e)) else none
    | _, _ => none) := rfl
  rw [e0, pd_row, pd_row]
  simp only
  rw [if_pos ⟨by simp [PySem.W.alike, PySem.W.alikeAll], rfl, by simp [PyData.depth, PyData.depthAll]⟩]
theorem way_inv {L n : Int} {u : U} (h : wayB L n u = true) : ∃ a b c : Int, u = tupI [a, b, c] ∧ 0 ≤ a ∧ a < n ∧ 0 ≤ b ∧ b < L ∧ 0 ≤ c ∧ c < n := by
  unfold wayB at h
  split at h
  · rename_i x y z
    simp only [Bool.and_eq_true] at h
    obtain ⟨a, rfl, a0, a1⟩ := numU_iff.mp h.1
    obtain ⟨b, rfl, b0, b1⟩ := numU_iff.mp h.2.1
    obtain ⟨c, rfl, c0, c1⟩ := numU_iff.mp h.2.2
    exact ⟨a, b, c, rfl, a0, a1, b0, b1, c0, c1⟩
  · cases h
theorem ltAll_way {L n : Int} {us : List U} (h : us.all (wayB L n) = true) : LtAll us := ltAll_of fun x mx y my => by
  obtain ⟨a, b, c, rfl, _⟩ := way_inv (List.all_eq_true.mp h x mx)
  obtain ⟨a', b', c', rfl, _⟩ := way_inv (List.all_eq_true.mp h y my)
  exact lt_rows _ _ _ _ _ _
theorem ways_b {L n : Int} {u : U} {w k : Nat} (hu : Tg w k u) (hw : w ≤ 1000000) : m_are_ways (.int L) (.int n) u = .ret (.bl (waysB L n u)) := by
  have sz : (16000000 : Nat) ≤ sizeLine := by decide
  refine eq_of_wp fun st => ?_
  unfold m_are_ways
  walk_at "v"
  refine wo_eq (isi_tu hu.dt) ?_
  walk_at "v"
  have hd := hu.dt
  cases u with
  | tup us =>
    have hl := hu.len
    refine if_f ?_
    walk_at "v"
    refine for_all (good := wayB L n) (fun x m st => ?_) (fun h => ?_) fun h => ?_
    · have hx := hu.mem x m
      have hxd := hx.dt
      walk_at "v"
      refine wo_eq (isi_tu hxd) ?_
      walk_at "v"
      cases x with
      | tup vs =>
        refine if_f ?_
        walk_at "v"
        match vs with
        | [a, b, c] =>
          have ha := data_mem hxd a (by simp)
          have hb := data_mem hxd b (by simp)
          have hc := data_mem hxd c (by simp)
          refine if_nn rfl ?_
          walk_at "v"
          refine vs_eq (below_u ha) ?_
          walk_at "v"
          refine if_any (fun q => ?_) fun q => ?_
          · walk_at "v"
            refine ⟨rfl, ?_⟩
            have q : numU n a = false := by simpa using q
            have e : wayB L n (.tup [a, b, c]) = false := by simp [wayB, q]
            rw [e]; rfl
          · have q : numU n a = true := by simpa using q
            walk_at "v"
            refine vs_eq (below_u hb) ?_
            walk_at "v"
            refine if_any (fun q2 => ?_) fun q2 => ?_
            · walk_at "v"
              refine ⟨rfl, ?_⟩
              have q2 : numU L b = false := by simpa using q2
              have e : wayB L n (.tup [a, b, c]) = false := by simp [wayB, q2]
              rw [e]; rfl
            · have q2 : numU L b = true := by simpa using q2
              walk_at "v"
              refine vs_eq (below_u hc) ?_
              walk_at "v"
              refine if_any (fun q3 => ?_) fun q3 => ?_
              · walk_at "v"
                refine ⟨rfl, ?_⟩
                have q3 : numU n c = false := by simpa using q3
                have e : wayB L n (.tup [a, b, c]) = false := by simp [wayB, q3]
                rw [e]; rfl
              · walk_at "v"
                refine ⟨rfl, ?_⟩
                have q3 : numU n c = true := by simpa using q3
                have e : wayB L n (.tup [a, b, c]) = true := by simp [wayB, q, q2, q3]
                rw [e]; rfl
        | [] => refine if_np (by simp) ?_; walk_at "v"; exact ⟨rfl, rfl⟩
        | [_] => refine if_np (by simp) ?_; walk_at "v"; exact ⟨rfl, rfl⟩
        | [_, _] => refine if_np (by simp) ?_; walk_at "v"; exact ⟨rfl, rfl⟩
        | _ :: _ :: _ :: _ :: r =>
          refine if_np (by simp only [List.length_cons]; omega) ?_
          walk_at "v"
          exact ⟨rfl, rfl⟩
      | non => refine if_t ?_; walk_at "v"; exact ⟨rfl, rfl⟩
      | bl _ => refine if_t ?_; walk_at "v"; exact ⟨rfl, rfl⟩
      | int _ => refine if_t ?_; walk_at "v"; exact ⟨rfl, rfl⟩
      | str _ => refine if_t ?_; walk_at "v"; exact ⟨rfl, rfl⟩
      | lst _ => refine if_t ?_; walk_at "v"; exact ⟨rfl, rfl⟩
      | dct _ _ => refine if_t ?_; walk_at "v"; exact ⟨rfl, rfl⟩
      | _ => simp [dataU] at hxd
    · walk_at "v"
      refine vs_eq (rising_b (by omega) (ltAll_way h)) ?_
      walk_at "v"
      exact ⟨by show _ = U.bl (us.all (wayB L n) && risB us); rw [h]; rfl, rfl⟩
    · exact ⟨by show _ = U.bl (us.all (wayB L n) && risB us); rw [h]; rfl, rfl⟩
  | non => refine if_t ?_; walk_at "v"; exact ⟨rfl, rfl⟩
  | bl _ => refine if_t ?_; walk_at "v"; exact ⟨rfl, rfl⟩
  | int _ => refine if_t ?_; walk_at "v"; exact ⟨rfl, rfl⟩
  | str _ => refine if_t ?_; walk_at "v"; exact ⟨rfl, rfl⟩
  | lst _ => refine if_t ?_; walk_at "v"; exact ⟨rfl, rfl⟩
  | dct _ _ => refine if_t ?_; walk_at "v"; exact ⟨rfl, rfl⟩
  | _ => simp [dataU] at hd
theorem lways_b {L n : Int} {u : U} {w k : Nat} (hu : Tg w k u) (hw : w ≤ 1000000) : m__law_are_ways (.int L) (.int n) u = .ret (.bl (waysB L n u)) := by
  have sz : (16000000 : Nat) ≤ sizeLine := by decide
  refine eq_of_wp fun st => ?_
  unfold m__law_are_ways
  walk_at "v"
  refine wo_eq (isi_tu hu.dt) ?_
  walk_at "v"
  have hd := hu.dt
  cases u with
  | tup us =>
    have hl := hu.len
    refine if_f ?_
    walk_at "v"
    refine for_all (good := wayB L n) (fun x m st => ?_) (fun h => ?_) fun h => ?_
    · have hx := hu.mem x m
      have hxd := hx.dt
      walk_at "v"
      refine wo_eq (isi_tu hxd) ?_
      walk_at "v"
      cases x with
      | tup vs =>
        refine if_f ?_
        walk_at "v"
        match vs with
        | [a, b, c] =>
          have ha := data_mem hxd a (by simp)
          have hb := data_mem hxd b (by simp)
          have hc := data_mem hxd c (by simp)
          refine if_nn rfl ?_
          walk_at "v"
          refine vs_eq (lwhole_b hb) ?_
          walk_at "v"
          refine if_any (fun q => ?_) fun q => ?_
          · walk_at "v"
            refine ⟨rfl, ?_⟩
            have q : numU L b = false := by rw [← numR_0]; simpa using q
            have e : wayB L n (.tup [a, b, c]) = false := by simp [wayB, q]
            rw [e]; rfl
          · have q : numU L b = true := by rw [← numR_0]; simpa using q
            walk_at "v"
            refine vs_eq (lwhole_b ha) ?_
            walk_at "v"
            refine if_any (fun q2 => ?_) fun q2 => ?_
            · walk_at "v"
              refine ⟨rfl, ?_⟩
              have q2 : numU n a = false := by rw [← numR_0]; simpa using q2
              have e : wayB L n (.tup [a, b, c]) = false := by simp [wayB, q2]
              rw [e]; rfl
            · have q2 : numU n a = true := by rw [← numR_0]; simpa using q2
              walk_at "v"
              refine vs_eq (lwhole_b hc) ?_
              walk_at "v"
              refine if_any (fun q3 => ?_) fun q3 => ?_
              · walk_at "v"
                refine ⟨rfl, ?_⟩
                have q3 : numU n c = false := by rw [← numR_0]; simpa using q3
                have e : wayB L n (.tup [a, b, c]) = false := by simp [wayB, q3]
                rw [e]; rfl
              · walk_at "v"
                refine ⟨rfl, ?_⟩
                have q3 : numU n c = true := by rw [← numR_0]; simpa using q3
                have e : wayB L n (.tup [a, b, c]) = true := by simp [wayB, q, q2, q3]
                rw [e]; rfl
        | [] => refine if_np (by simp) ?_; walk_at "v"; exact ⟨rfl, rfl⟩
        | [_] => refine if_np (by simp) ?_; walk_at "v"; exact ⟨rfl, rfl⟩
        | [_, _] => refine if_np (by simp) ?_; walk_at "v"; exact ⟨rfl, rfl⟩
        | _ :: _ :: _ :: _ :: r =>
          refine if_np (by simp only [List.length_cons]; omega) ?_
          walk_at "v"
          exact ⟨rfl, rfl⟩
      | non => refine if_t ?_; walk_at "v"; exact ⟨rfl, rfl⟩
      | bl _ => refine if_t ?_; walk_at "v"; exact ⟨rfl, rfl⟩
      | int _ => refine if_t ?_; walk_at "v"; exact ⟨rfl, rfl⟩
      | str _ => refine if_t ?_; walk_at "v"; exact ⟨rfl, rfl⟩
      | lst _ => refine if_t ?_; walk_at "v"; exact ⟨rfl, rfl⟩
      | dct _ _ => refine if_t ?_; walk_at "v"; exact ⟨rfl, rfl⟩
      | _ => simp [dataU] at hxd
    · walk_at "v"
      refine vs_eq (rising_b (by omega) (ltAll_way h)) ?_
      walk_at "v"
      exact ⟨by show _ = U.bl (us.all (wayB L n) && risB us); rw [h]; rfl, rfl⟩
    · exact ⟨by show _ = U.bl (us.all (wayB L n) && risB us); rw [h]; rfl, rfl⟩
  | non => refine if_t ?_; walk_at "v"; exact ⟨rfl, rfl⟩
  | bl _ => refine if_t ?_; walk_at "v"; exact ⟨rfl, rfl⟩
  | int _ => refine if_t ?_; walk_at "v"; exact ⟨rfl, rfl⟩
  | str _ => refine if_t ?_; walk_at "v"; exact ⟨rfl, rfl⟩
  | lst _ => refine if_t ?_; walk_at "v"; exact ⟨rfl, rfl⟩
  | dct _ _ => refine if_t ?_; walk_at "v"; exact ⟨rfl, rfl⟩
  | _ => simp [dataU] at hd
def kindB (x : Str) : Bool := decide (x = "again") || (decide (x = "at last") || (decide (x = "pairs") || decide (x = "ranks")))
def byB (x : Str) (n : Int) (u : U) : Bool := if x = "again" ∨ x = "at last" then roomsB n u else if x = "ranks" then ranksB n u else pairsB n u
theorem in_2 (x : Str) : inSU (.str x) (.tup [.str "again", .str "at last"]) = some (.bl (decide (x = "again" ∨ x = "at last"))) := by
  show some (U.bl ([V.str "again", V.str "at last"].any fun y => eqV y (.str x))) = _
  congr 2
  have e : ∀ a : Str, eqV (.str a) (.str x) = decide (x = a) := fun a => by
    by_cases h : x = a
    · subst h; simp [eqV]
    · rw [decide_eq_false h]
      simp [eqV]
      exact fun z => h z.symm
  simp only [List.any_cons, List.any_nil, e, Bool.or_false, Bool.decide_or]
theorem lby_b {x : Str} {n : Int} {u : U} {w k : Nat} (hu : Tg w k u) (hw : w ≤ 1000000) : m__law_is_by (.str x) (.int n) u = .ret (.bl (byB x n u)) := by
  have sz : (16000000 : Nat) ≤ sizeLine := by decide
  refine eq_of_wp fun st => ?_
  unfold m__law_is_by
  walk_at "v"
  refine wo_eq (in_2 x) ?_
  walk_at "v"
  refine if_dec (fun q => ?_) fun q => ?_
  · walk_at "v"
    refine vs_eq (lrooms_b hu hw) ?_
    walk_at "v"
    exact ⟨by unfold byB; rw [if_pos q], rfl⟩
  walk_at "v"
  refine wo_eq (isi_tu hu.dt) ?_
  walk_at "v"
  have hd := hu.dt
  have no : isTu u = false → U.bl false = .bl (byB x n u) := fun h => by
    unfold byB
    rw [if_neg q]
    cases u <;> first | (simp [isTu] at h; done) | (simp [ranksB, pairsB])
  cases u with
  | tup us =>
    have hl := hu.len
    refine if_f ?_
    walk_at "v"
    refine if_dec (fun q2 => ?_) fun q2 => ?_
    · walk_at "v"
      have eb : byB x n (.tup us) = (decide ((us.length : Int) = n) && us.all (numU 1000000000)) := by
        unfold byB
        rw [if_neg q, if_pos q2]
        rfl
      refine if_dec (fun q => ?_) fun q => ?_
      · walk_at "v"
        refine vs_eq (comp_id (g := fun u => .bl (numU 1000000000 u)) fun u m => ⟨rfl, eq_of_wp fun st => ?_⟩) ⟨by rw [List.length_map]; omega, ?_⟩
        · walk_at "v"
          refine wo_eq (a := .int 1000000000) (by rfl) ?_
          walk_at "v"
          refine vs_eq (lwhole_b (data_mem hd u m)) ?_
          walk_at "v"
          exact ⟨by rw [numR_0], rfl⟩
        · refine wo_eq (a := .bl (us.all (numU 1000000000))) (by
            have := all_at (us.map (numU 1000000000))
            rw [List.map_map, List.all_map] at this
            exact this) ?_
          walk_at "v"
          exact ⟨by rw [eb, decide_eq_true q]; rfl, rfl⟩
      · exact ⟨by rw [eb, decide_eq_false q]; rfl, rfl⟩
    · walk_at "v"
      have eb : byB x n (.tup us) = us.all (pairB n) := by
        unfold byB
        rw [if_neg q, if_neg q2]
        rfl
      refine for_all (good := pairB n) (fun x m st => ?_) (fun h => ?_) fun h => ?_
      · have hx := hu.mem x m
        have hxd := hx.dt
        walk_at "v"
        refine wo_eq (isi_tu hxd) ?_
        walk_at "v"
        cases x with
        | tup vs =>
          refine if_f ?_
          walk_at "v"
          match vs with
          | [a, b] =>
            have ha := hx.mem a (by simp)
            have hb := hx.mem b (by simp)
            refine if_nn rfl ?_
            walk_at "v"
            refine vs_eq (lrooms_b ha hw) ?_
            walk_at "v"
            refine if_any (fun q => ?_) fun q => ?_
            · walk_at "v"
              refine ⟨rfl, ?_⟩
              have q : roomsB n a = false := by simpa using q
              have e : pairB n (.tup [a, b]) = false := by simp [pairB, q]
              rw [e]; rfl
            · have q : roomsB n a = true := by simpa using q
              walk_at "v"
              refine vs_eq (lrooms_b hb hw) ?_
              walk_at "v"
              refine if_any (fun q2 => ?_) fun q2 => ?_
              · walk_at "v"
                refine ⟨rfl, ?_⟩
                have q2 : roomsB n b = false := by simpa using q2
                have e : pairB n (.tup [a, b]) = false := by simp [pairB, q2]
                rw [e]; rfl
              · walk_at "v"
                refine ⟨rfl, ?_⟩
                have q2 : roomsB n b = true := by simpa using q2
                have e : pairB n (.tup [a, b]) = true := by simp [pairB, q, q2]
                rw [e]; rfl
          | [] => refine if_np (by simp) ?_; walk_at "v"; exact ⟨rfl, rfl⟩
          | [_] => refine if_np (by simp) ?_; walk_at "v"; exact ⟨rfl, rfl⟩
          | _ :: _ :: _ :: r =>
            refine if_np (by simp only [List.length_cons]; omega) ?_
            walk_at "v"
            exact ⟨rfl, rfl⟩
        | non => refine if_t ?_; walk_at "v"; exact ⟨rfl, rfl⟩
        | bl _ => refine if_t ?_; walk_at "v"; exact ⟨rfl, rfl⟩
        | int _ => refine if_t ?_; walk_at "v"; exact ⟨rfl, rfl⟩
        | str _ => refine if_t ?_; walk_at "v"; exact ⟨rfl, rfl⟩
        | lst _ => refine if_t ?_; walk_at "v"; exact ⟨rfl, rfl⟩
        | dct _ _ => refine if_t ?_; walk_at "v"; exact ⟨rfl, rfl⟩
        | _ => simp [dataU] at hxd
      · walk_at "v"
        exact ⟨by rw [eb, h], rfl⟩
      · exact ⟨by rw [eb, h], rfl⟩
  | non => refine if_t ?_; walk_at "v"; exact ⟨no rfl, rfl⟩
  | bl _ => refine if_t ?_; walk_at "v"; exact ⟨no rfl, rfl⟩
  | int _ => refine if_t ?_; walk_at "v"; exact ⟨no rfl, rfl⟩
  | str _ => refine if_t ?_; walk_at "v"; exact ⟨no rfl, rfl⟩
  | lst _ => refine if_t ?_; walk_at "v"; exact ⟨no rfl, rfl⟩
  | dct _ _ => refine if_t ?_; walk_at "v"; exact ⟨no rfl, rfl⟩
  | _ => simp [dataU] at hd
def faultU (a b c d e f : U) : U := if numR 1 5 a = false then .str "letters" else if numR 1 1000000000 b = false then .str "rooms" else match a, b with
  | .int L, .int n => if numU n c = false then .str "start" else if waysB L n d = false then .str "ways" else (match e with
    | .str x => if kindB x = false then .str "kind" else if byB x n f = false then .str "by" else .non
    | _ => .str "kind")
  | _, _ => .non
theorem tab_not {x : Str} (h : kindB x = false) : tab_KINDS.lookup x = none := by
  simp only [kindB, Bool.or_eq_false_iff, decide_eq_false_iff_not] at h
  obtain ⟨h1, h2, h3, h4⟩ := h
  unfold tab_KINDS
  have z : ∀ {a : Str}, ¬ x = a → (x == a) = false := fun h => by simpa using h
  simp only [List.lookup_cons, z h1, z h2, z h3, z h4, List.lookup_nil]
theorem kind_4 {x : Str} (h : kindB x = true) : x = "again" ∨ x = "at last" ∨ x = "pairs" ∨ x = "ranks" := by
  simpa [kindB] using h
theorem tab_yes {x : Str} (h : kindB x = true) : ∃ u, tab_KINDS.lookup x = some u := by
  rcases kind_4 h with rfl | rfl | rfl | rfl
  · exact ⟨_, rfl⟩
  · exact ⟨_, rfl⟩
  · exact ⟨_, rfl⟩
  · exact ⟨_, rfl⟩
theorem fault_b {a b c d e f : U} {w k : Nat} (ha : Tg w k a) (hb : Tg w k b) (hc : Tg w k c) (hd : Tg w k d) (he : Tg w k e) (hf : Tg w k f) (hw : w ≤ 1000000) (hn : ∀ n, b = .int n → n < 1000000000) (hs : smB f = true) :
    m_fault_of a b c d e f = .ret (faultU a b c d e f) := by
  have sz : (16000000 : Nat) ≤ sizeLine := by decide
  refine eq_of_wp fun st => ?_
  unfold m_fault_of faultU
  walk_at "v"
  refine vs_eq (whole_u ha.dt) ?_
  walk_at "v"
  have had := ha.dt
  have hbd := hb.dt
  have hed := he.dt
  have nl : ∀ u : U, (∀ i, u ≠ .int i) → numR 1 5 u = false := fun u h => by
    cases u <;> first | rfl | exact absurd rfl (h _)
  cases a with
  | int L =>
    refine if_nt ?_
    walk_at "v"
    have one : ∀ {Q : U → Sto → Prop}, (numR 1 5 (.int L) = false → Q (.str "letters") st) → (numR 1 5 (.int L) = true → 1 ≤ L → L ≤ 4 → Q (.int L) st) → Q (if numR 1 5 (.int L) = true then .int L else .str "letters") st := fun {Q} h1 h2 => by
      by_cases h : numR 1 5 (.int L) = true
      · rw [if_pos h]
        have : 1 ≤ L ∧ L < 5 := by simpa [numR] using h
        exact h2 h this.1 (by omega)
      · rw [if_neg h]
        exact h1 (by simpa using h)
    by_cases hl : 1 ≤ L
    · rw [decide_eq_true hl]
      walk_at "v"
      by_cases hl4 : L ≤ 4
      · rw [decide_eq_true hl4]
        walk_at "v"
        have e1 : ¬ numR 1 5 (.int L) = false := by simp [numR]; omega
        rw [if_neg e1]
        refine vs_eq (whole_u hb.dt) ?_
        walk_at "v"
        cases b with
        | int n =>
          have hn := hn n rfl
          refine if_nt ?_
          walk_at "v"
          by_cases h1 : n < 1
          · rw [decide_eq_true h1]
            walk_at "v"
            have e2 : numR 1 1000000000 (.int n) = false := by simp [numR]; omega
            rw [if_pos e2]
            exact ⟨rfl, rfl⟩
          · rw [decide_eq_false h1]
            walk_at "v"
            have e2 : ¬ numR 1 1000000000 (.int n) = false := by simp [numR]; omega
            rw [if_neg e2]
            refine vs_eq (below_u hc.dt) ?_
            walk_at "v"
            refine if_any (fun q => ?_) fun q => ?_
            · walk_at "v"
              have q : numU n c = false := by simpa using q
              exact ⟨by simp [q], rfl⟩
            · have q : numU n c = true := by simpa using q
              have nq : ¬ numU n c = false := by rw [q]; decide
              walk_at "v"
              refine vs_eq (ways_b hd hw) ?_
              walk_at "v"
              refine if_any (fun q2 => ?_) fun q2 => ?_
              · walk_at "v"
                have q2 : waysB L n d = false := by simpa using q2
                exact ⟨by simp [q, q2], rfl⟩
              · have q2 : waysB L n d = true := by simpa using q2
                have nq2 : ¬ waysB L n d = false := by rw [q2]; decide
                walk_at "v"
                refine wo_eq (isi_su he.dt) ?_
                walk_at "v"
                have no : isSu e = false → U.str "kind" = if numU n c = false then U.str "start" else if waysB L n d = false then U.str "ways" else match e with
                    | U.str x => if kindB x = false then U.str "kind" else if byB x n f = false then U.str "by" else U.non
                    | x => U.str "kind" := fun h => by
                  rw [if_neg nq, if_neg nq2]
                  cases e <;> first | rfl | simp [isSu] at h
                cases e with
                | str x =>
                  refine if_nt ?_
                  walk_at "v"
                  by_cases hk : kindB x = true
                  · obtain ⟨g, eg⟩ := tab_yes hk
                    refine wo_eq (a := .bl false) (by show some (U.bl (tab_KINDS.lookup x).isNone) = _; rw [eg]; rfl) ?_
                    walk_at "v"
                    refine wo_eq (a := g) (by exact eg) ?_
                    walk_at "v"
                    have fin : ∀ {t : Bool}, t = byB x n f → (if t = false then U.str "by" else U.non) = (if numU n c = false then U.str "start" else if waysB L n d = false then U.str "ways" else if kindB x = false then U.str "kind" else if byB x n f = false then U.str "by" else U.non) := fun {t} et => by
                      rw [if_neg nq, if_neg nq2, if_neg (show ¬ kindB x = false by rw [hk]; decide), et]
                    rcases kind_4 hk with rfl | rfl | rfl | rfl
                    · cases eg
                      show Wp (m_are_rooms (.int n) f) _ _
                      refine vs_eq (rooms_b hf hw) ?_
                      walk_at "v"
                      refine if_any (fun q5 => ?_) fun q5 => ?_
                      · walk_at "v"
                        exact ⟨Eq.trans (by rw [q5]; rfl) (fin (t := roomsB n f) (by unfold byB; rw [if_pos (.inl rfl)])), rfl⟩
                      · walk_at "v"
                        exact ⟨Eq.trans (by rw [q5]; rfl) (fin (t := roomsB n f) (by unfold byB; rw [if_pos (.inl rfl)])), rfl⟩
                    · cases eg
                      show Wp (m_are_rooms (.int n) f) _ _
                      refine vs_eq (rooms_b hf hw) ?_
                      walk_at "v"
                      refine if_any (fun q5 => ?_) fun q5 => ?_
                      · walk_at "v"
                        exact ⟨Eq.trans (by rw [q5]; rfl) (fin (t := roomsB n f) (by unfold byB; rw [if_pos (.inr rfl)])), rfl⟩
                      · walk_at "v"
                        exact ⟨Eq.trans (by rw [q5]; rfl) (fin (t := roomsB n f) (by unfold byB; rw [if_pos (.inr rfl)])), rfl⟩
                    · cases eg
                      show Wp (m_are_pairs (.int n) f) _ _
                      refine vs_eq (pairs_b hf hw) ?_
                      walk_at "v"
                      refine if_any (fun q5 => ?_) fun q5 => ?_
                      · walk_at "v"
                        exact ⟨Eq.trans (by rw [q5]; rfl) (fin (t := pairsB n f) (by unfold byB; rw [if_neg (by decide), if_neg (by decide)])), rfl⟩
                      · walk_at "v"
                        exact ⟨Eq.trans (by rw [q5]; rfl) (fin (t := pairsB n f) (by unfold byB; rw [if_neg (by decide), if_neg (by decide)])), rfl⟩
                    · cases eg
                      show Wp (m_are_ranks (.int n) f) _ _
                      refine vs_eq (ranks_b hf hw hs) ?_
                      walk_at "v"
                      refine if_any (fun q5 => ?_) fun q5 => ?_
                      · walk_at "v"
                        exact ⟨Eq.trans (by rw [q5]; rfl) (fin (t := ranksB n f) (by unfold byB; rw [if_neg (by decide), if_pos rfl])), rfl⟩
                      · walk_at "v"
                        exact ⟨Eq.trans (by rw [q5]; rfl) (fin (t := ranksB n f) (by unfold byB; rw [if_neg (by decide), if_pos rfl])), rfl⟩
                  · have hk : kindB x = false := by simpa using hk
                    refine wo_eq (a := .bl true) (by show some (U.bl (tab_KINDS.lookup x).isNone) = _; rw [tab_not hk]; rfl) ?_
                    walk_at "v"
                    exact ⟨by simp [q, q2, hk], rfl⟩
                | non => refine if_nf ?_; walk_at "v"; exact ⟨no rfl, rfl⟩
                | bl _ => refine if_nf ?_; walk_at "v"; exact ⟨no rfl, rfl⟩
                | int _ => refine if_nf ?_; walk_at "v"; exact ⟨no rfl, rfl⟩
                | tup _ => refine if_nf ?_; walk_at "v"; exact ⟨no rfl, rfl⟩
                | lst _ => refine if_nf ?_; walk_at "v"; exact ⟨no rfl, rfl⟩
                | dct _ _ => refine if_nf ?_; walk_at "v"; exact ⟨no rfl, rfl⟩
                | _ => simp [dataU] at hed
        | non => refine if_nf ?_; walk_at "v"; exact ⟨rfl, rfl⟩
        | bl _ => refine if_nf ?_; walk_at "v"; exact ⟨rfl, rfl⟩
        | str _ => refine if_nf ?_; walk_at "v"; exact ⟨rfl, rfl⟩
        | tup _ => refine if_nf ?_; walk_at "v"; exact ⟨rfl, rfl⟩
        | lst _ => refine if_nf ?_; walk_at "v"; exact ⟨rfl, rfl⟩
        | dct _ _ => refine if_nf ?_; walk_at "v"; exact ⟨rfl, rfl⟩
        | _ => simp [dataU] at hbd
      · rw [decide_eq_false hl4]
        walk_at "v"
        have e1 : numR 1 5 (.int L) = false := by simp [numR]; omega
        rw [if_pos e1]
        exact ⟨rfl, rfl⟩
    · rw [decide_eq_false hl]
      walk_at "v"
      have e1 : numR 1 5 (.int L) = false := by simp [numR]; omega
      rw [if_pos e1]
      exact ⟨rfl, rfl⟩
  | non => refine if_nf ?_; walk_at "v"; exact ⟨rfl, rfl⟩
  | bl _ => refine if_nf ?_; walk_at "v"; exact ⟨rfl, rfl⟩
  | str _ => refine if_nf ?_; walk_at "v"; exact ⟨rfl, rfl⟩
  | tup _ => refine if_nf ?_; walk_at "v"; exact ⟨rfl, rfl⟩
  | lst _ => refine if_nf ?_; walk_at "v"; exact ⟨rfl, rfl⟩
  | dct _ _ => refine if_nf ?_; walk_at "v"; exact ⟨rfl, rfl⟩
  | _ => simp [dataU] at had
theorem in_4 (x : Str) : notInSU (.str x) (.tup [.str "again", .str "at last", .str "pairs", .str "ranks"]) = some (.bl (!kindB x)) := by
  show some (U.bl (!([V.str "again", V.str "at last", V.str "pairs", V.str "ranks"].any fun y => eqV y (.str x)))) = _
  congr 3
  have e : ∀ a : Str, eqV (.str a) (.str x) = decide (x = a) := fun a => by
    by_cases h : x = a
    · subst h; simp [eqV]
    · rw [decide_eq_false h]
      simp [eqV]
      exact fun z => h z.symm
  simp only [List.any_cons, List.any_nil, e, Bool.or_false, kindB]
theorem due_b {a b c d e f : U} {w k : Nat} (ha : Tg w k a) (hb : Tg w k b) (hc : Tg w k c) (hd : Tg w k d) (he : Tg w k e) (hf : Tg w k f) (hw : w ≤ 1000000) : m__law_due (.tup [a, b, c, d, e, f]) = .ret (faultU a b c d e f) := by
  have sz : (16000000 : Nat) ≤ sizeLine := by decide
  refine eq_of_wp fun st => ?_
  unfold m__law_due faultU
  walk_at "v"
  have hed := he.dt
  refine vs_eq (lwhole_b ha.dt) ?_
  walk_at "v"
  refine if_any (fun q => ?_) fun q => ?_
  · have q : numR 1 5 a = false := by simpa using q
    walk_at "v"
    exact ⟨by rw [if_pos q], rfl⟩
  have q : numR 1 5 a = true := by simpa using q
  have nq : ¬ numR 1 5 a = false := by rw [q]; decide
  rw [if_neg nq]
  walk_at "v"
  refine wo_eq (a := .int 1000000000) (by rfl) ?_
  walk_at "v"
  refine vs_eq (lwhole_b hb.dt) ?_
  walk_at "v"
  refine if_any (fun q2 => ?_) fun q2 => ?_
  · have q2 : numR 1 1000000000 b = false := by simpa using q2
    walk_at "v"
    exact ⟨by rw [if_pos q2], rfl⟩
  have q2 : numR 1 1000000000 b = true := by simpa using q2
  have nq2 : ¬ numR 1 1000000000 b = false := by rw [q2]; decide
  rw [if_neg nq2]
  obtain ⟨L, rfl⟩ : ∃ L, a = .int L := by
    cases a <;> first | exact ⟨_, rfl⟩ | simp [numR] at q
  obtain ⟨n, rfl⟩ : ∃ n, b = .int n := by
    cases b <;> first | exact ⟨_, rfl⟩ | simp [numR] at q2
  walk_at "v"
  refine vs_eq (lwhole_b hc.dt) ?_
  walk_at "v"
  refine if_any (fun q3 => ?_) fun q3 => ?_
  · have q3 : numU n c = false := by rw [← numR_0]; simpa using q3
    walk_at "v"
    exact ⟨by show _ = (if numU n c = false then _ else _); rw [if_pos q3], rfl⟩
  have q3 : numU n c = true := by rw [← numR_0]; simpa using q3
  have nq3 : ¬ numU n c = false := by rw [q3]; decide
  walk_at "v"
  refine vs_eq (lways_b hd hw) ?_
  walk_at "v"
  refine if_any (fun q4 => ?_) fun q4 => ?_
  · have q4 : waysB L n d = false := by simpa using q4
    walk_at "v"
    exact ⟨by show _ = (if numU n c = false then _ else (if waysB L n d = false then _ else _)); rw [if_neg nq3, if_pos q4], rfl⟩
  have q4 : waysB L n d = true := by simpa using q4
  have nq4 : ¬ waysB L n d = false := by rw [q4]; decide
  have no : isSu e = false → U.str "kind" = if numU n c = false then U.str "start" else if waysB L n d = false then U.str "ways" else match e with
      | U.str x => if kindB x = false then U.str "kind" else if byB x n f = false then U.str "by" else U.non
      | x => U.str "kind" := fun h => by
    rw [if_neg nq3, if_neg nq4]
    cases e <;> first | rfl | simp [isSu] at h
  walk_at "v"
  refine wo_eq (isi_su he.dt) ?_
  walk_at "v"
  cases e with
  | str x =>
    refine if_nt ?_
    walk_at "v"
    refine wo_eq (in_4 x) ?_
    walk_at "v"
    by_cases hk : kindB x = true
    · rw [hk]
      walk_at "v"
      refine vs_eq (lby_b hf hw) ?_
      walk_at "v"
      have fin : U.str "x" = U.str "x" → (if byB x n f = false then U.str "by" else U.non) = if numU n c = false then U.str "start" else if waysB L n d = false then U.str "ways" else if kindB x = false then U.str "kind" else if byB x n f = false then U.str "by" else U.non := fun _ => by
        rw [if_neg nq3, if_neg nq4, if_neg (show ¬ kindB x = false by rw [hk]; decide)]
      refine if_any (fun q5 => ?_) fun q5 => ?_
      · walk_at "v"
        exact ⟨Eq.trans (by rw [q5]; rfl) (fin rfl), rfl⟩
      · walk_at "v"
        exact ⟨Eq.trans (by rw [q5]; rfl) (fin rfl), rfl⟩
    · have hk : kindB x = false := by simpa using hk
      rw [hk]
      walk_at "v"
      exact ⟨by show _ = (if numU n c = false then U.str "start" else if waysB L n d = false then U.str "ways" else if kindB x = false then U.str "kind" else if byB x n f = false then U.str "by" else U.non); rw [if_neg nq3, if_neg nq4, if_pos hk], rfl⟩
  | non => refine if_nf ?_; walk_at "v"; exact ⟨no rfl, rfl⟩
  | bl _ => refine if_nf ?_; walk_at "v"; exact ⟨no rfl, rfl⟩
  | int _ => refine if_nf ?_; walk_at "v"; exact ⟨no rfl, rfl⟩
  | tup _ => refine if_nf ?_; walk_at "v"; exact ⟨no rfl, rfl⟩
  | lst _ => refine if_nf ?_; walk_at "v"; exact ⟨no rfl, rfl⟩
  | dct _ _ => refine if_nf ?_; walk_at "v"; exact ⟨no rfl, rfl⟩
  | _ => simp [dataU] at hed
mutual
theorem nl_data : ∀ u : U, dataU u = true → nlU u = true
  | .non, _ => rfl
  | .bl _, _ => rfl
  | .int _, _ => rfl
  | .str _, _ => rfl
  | .tup us, h => nlA_data us h
  | .lst us, h => nlA_data us h
  | .dct _ us, h => nlA_data us h
  | .dcT _ _, h | .dcN _ _, h | .obj _ _ _, h | .top _, h | .frl _, h | .loc _, h | .exc _, h | .exo _ _ _, h => by cases h
theorem nlA_data : ∀ us : List U, dataA us = true → nlA us = true
  | [], _ => rfl
  | u :: us, h => by
    have h : dataU u = true ∧ dataA us = true := by simpa [dataA] using h
    simp [nlA, nl_data u h.1, nlA_data us h.2]
end
theorem fault_cases (a b c d e f : U) : faultU a b c d e f = .non ∨ ∃ x, faultU a b c d e f = .str x := by
  unfold faultU
  split
  · exact .inr ⟨_, rfl⟩
  split
  · exact .inr ⟨_, rfl⟩
  split
  · split
    · exact .inr ⟨_, rfl⟩
    split
    · exact .inr ⟨_, rfl⟩
    split
    · split
      · exact .inr ⟨_, rfl⟩
      split
      · exact .inr ⟨_, rfl⟩
      · exact .inl rfl
    · exact .inr ⟨_, rfl⟩
  · exact .inl rfl
theorem ways_inv_l {L n : Int} : ∀ us : List U, us.all (wayB L n) = true → ∃ W : List (List Int), us = W.map tupI ∧ ∀ w ∈ W, Tri n L w
  | [], _ => ⟨[], rfl, by simp⟩
  | u :: us, h => by
    rw [List.all_cons, Bool.and_eq_true] at h
    obtain ⟨W, e, hW⟩ := ways_inv_l us h.2
    obtain ⟨a, b, c, rfl, a0, a1, b0, b1, c0, c1⟩ := way_inv h.1
    subst e
    refine ⟨[a, b, c] :: W, rfl, fun w m => ?_⟩
    rcases List.mem_cons.mp m with rfl | m
    · exact ⟨a, b, c, rfl, a0, a1, b0, b1, c0, c1⟩
    · exact hW w m
theorem ways_inv {L n : Int} {d : U} (h : waysB L n d = true) : ∃ W : List (List Int), d = .tup (W.map tupI) ∧ ∀ w ∈ W, Tri n L w := by
  cases d with
  | tup us =>
    simp only [waysB, Bool.and_eq_true] at h
    obtain ⟨W, e, hW⟩ := ways_inv_l us h.1
    exact ⟨W, by rw [e], hW⟩
  | _ => simp [waysB] at h
theorem fault_non {a b c d e f : U} {w k : Nat} (ha : Tg w k a) (hb : Tg w k b) (h : faultU a b c d e f = .non) : ∃ (L n s : Int) (W : List (List Int)) (x : Str), a = .int L ∧ b = .int n ∧ c = .int s ∧ d = .tup (W.map tupI) ∧ e = .str x ∧ 1 ≤ n ∧ (∀ w ∈ W, Tri n L w) ∧ leafU f = true := by
  unfold faultU at h
  by_cases h1 : numR 1 5 a = false
  · rw [if_pos h1] at h; cases h
  rw [if_neg h1] at h
  by_cases h2 : numR 1 1000000000 b = false
  · rw [if_pos h2] at h; cases h
  rw [if_neg h2] at h
  cases a with
  | int L =>
    cases b with
    | int n =>
      have h : (if numU n c = false then U.str "start" else if waysB L n d = false then U.str "ways" else (match (generalizing := false) e with
        | .str x => if kindB x = false then U.str "kind" else if byB x n f = false then U.str "by" else .non
        | _ => U.str "kind")) = .non := h
      by_cases h3 : numU n c = false
      · rw [if_pos h3] at h; cases h
      rw [if_neg h3] at h
      by_cases h4 : waysB L n d = false
      · rw [if_pos h4] at h; cases h
      rw [if_neg h4] at h
      cases e with
      | str x =>
        have h : (if kindB x = false then U.str "kind" else if byB x n f = false then U.str "by" else .non) = .non := h
        by_cases h5 : kindB x = false
        · rw [if_pos h5] at h; cases h
        rw [if_neg h5] at h
        by_cases h6 : byB x n f = false
        · rw [if_pos h6] at h; cases h
        obtain ⟨s, rfl, _⟩ := numU_iff.mp (by simpa using h3)
        obtain ⟨W, rfl, hW⟩ := ways_inv (by simpa using h4)
        refine ⟨L, n, s, W, x, rfl, rfl, rfl, rfl, rfl, ?_, hW, ?_⟩
        · have : 1 ≤ n ∧ n < 1000000000 := by simpa [numR] using h2
          exact this.1
        · have h6 : byB x n f = true := by simpa using h6
          cases f <;> first | rfl | (exfalso; revert h6; unfold byB; repeat' split) <;> simp [roomsB, ranksB, pairsB]
      | _ => cases h
    | _ => simp [numR] at h2
  | _ => simp [numR] at h1
theorem init_good {ms : Sto} {L n s : Int} {W : List (List Int)} {x : Str} {B : U} (n0 : 1 ≤ n) (n1 : n ≤ 4000) (hW : ∀ w ∈ W, Tri n L w) (hl : W.length ≤ 90000) (hB : leafU B = true) (hf : m_fault_of (.int L) (.int n) (.int s) (.tup (W.map tupI)) (.str x) B = .ret .non) :
    Wp (m_Hall___init__ (.loc ms.length) (.int L) (.int n) (.int s) (.tup (W.map tupI)) (.str x) B) (ms ++ [.obj "Hall" [] []]) fun u st => ∃ G : List Dc, u = .non ∧ st = ms ++ [hallObj L n s W x B G] := by
  have sz : (1000000 : Nat) ≤ sizeLine := by decide
  unfold m_Hall___init__
  refine wp_fnX (Q := fun u st => ∃ G : List Dc, u = .non ∧ st = ms ++ [hallObj L n s W x B G]) (fun u s ⟨G, e, _⟩ => by rw [e]; rfl) ?_
  refine .fn (.seq (.bind (wp_ret (w := callM (L6 m_fault_of) _) hf (.nx (.seq (.ite (.test (.bind (.ret (.ret ⟨_, rfl, ?_⟩))))))))))
  show Wp (nxO ()) _ _
  refine .nx ?_
  refine .bind (.bind (.ret (.o rfl (.bind (wp_loc (.bind (.o rfl (.bind (wp_put ?_)))))))))
  refine .bind (.bind (.ret (.o rfl (.bind (wp_loc (.bind (.o rfl (.bind (wp_put ?_)))))))))
  refine .bind (.bind (.ret (.o rfl (.bind (wp_loc (.bind (.o rfl (.bind (wp_put ?_)))))))))
  refine .bind (.bind (.ret (.o rfl (.bind (wp_loc (.bind (.o rfl (.bind (wp_put ?_)))))))))
  refine .bind (.bind (.ret (.o rfl (.bind (wp_loc (.bind (.o rfl (.bind (wp_put ?_)))))))))
  refine .bind (.bind (.ret (.o (show leafO B = some B by unfold leafO; rw [if_pos hB]) (.bind (wp_loc (.bind (.o rfl (.bind (wp_put ?_)))))))))
  refine .bind (.lc (wp_rng (by omega) (by omega) (wp_ret (comp_map (f := fun _ => .dct [] []) fun u m => ⟨rfl, rfl⟩) ⟨by rw [List.length_map, List.length_map, List.length_range]; omega, ?_⟩)))
  rw [show List.map (fun _ => U.dct [] []) ((List.range n.toNat).map fun i => U.int (i : Nat)) = (List.replicate n.toNat ([] : Dc)).map dU from by rw [List.map_const', List.map_replicate, List.length_map, List.length_range]; rfl]
  refine .bind (wp_loc (.bind (.o rfl (.bind (wp_put ?_)))))
  refine .seq (.bind (.eq (a := W.map tupI) (s := ms ++ [hallObj L n s W x B (List.replicate n.toNat [])]) rfl (Wp.for (fun i _ st => ∃ G : List Dc, st = ms ++ [hallObj L n s W x B G] ∧ GOk n (W.take i) G) ⟨_, rfl, ?_⟩ ?_ ?_)))
  · refine ⟨by rw [List.length_replicate]; omega, fun r D e => ?_⟩
    have : D = [] := by
      have := List.mem_of_getElem? e
      exact (List.mem_replicate.mp this).2
    subst this
    exact ⟨by simp, fun l => rfl⟩
  · rintro i u _ st e ⟨G, rfl, hG⟩
    rw [List.getElem?_map] at e
    obtain ⟨w, ew, rfl⟩ := Option.map_eq_some_iff.mp e
    obtain ⟨a, b, c, rfl, a0, a1, b0, b1, c0, c1⟩ := hW w (List.mem_of_getElem? ew)
    have hi := getElem?_lt ew
    have hlen := hG.len
    have ha : a.toNat < G.length := by omega
    have hD : G[a.toNat]? = some G[a.toNat] := List.getElem?_eq_getElem ha
    generalize G[a.toNat] = D at hD
    obtain ⟨d1, d2⟩ := hG.at_ _ D hD
    have d3 := ends_len (W.take i) a.toNat b
    rw [List.length_take] at d1 d3
    have ea : ((a.toNat : Nat) : Int) = a := by omega
    show Wp (M.bind _ _) _ _
    refine Wp.bind (Wp.bind (Wp.bind (Wp.bind (Wp.ret (wp_loc (Wp.o (a := (ms.length, (U.lst (G.map dU), fun y => U.obj "Hall" hNames [.int L, .int n, .int s, .tup (W.map tupI), .str x, B, y]))) rfl ?_))))))
    refine Wp.bind (Wp.ret (Wp.o (a := (ms.length, (dU D, fun y => .obj "Hall" hNames [.int L, .int n, .int s, .tup (W.map tupI), .str x, B, .lst ((G.map dU).set a.toNat y)]))) ?_ ?_))
    rotate_left
    refine Wp.bind (Wp.ret (Wp.bind (Wp.o (sd_eq (by omega) (by rw [d2]; omega)) (Wp.bind (wp_put (Wp.nx ⟨G.set a.toNat (dAdd b c D), ?_, ?_⟩))))))
    rotate_right
    · rw [← ea, ixC_at (by rw [List.getElem?_map, hD]; rfl), ea]
    · unfold hallObj
      rw [List.map_set]
    · rw [List.take_add_one, ew]
      exact gok_snoc hG a0 hD
  · rintro _ st ⟨G, rfl, hG⟩
    exact .nx ⟨G, rfl, rfl⟩
theorem init_bad {st : Sto} {i : Nat} {a b c d e f : U} {y : Str} (hf : m_fault_of a b c d e f = .ret (.str y)) : WrE (m_Hall___init__ (.loc i) a b c d e f) st (.exo "NoHall" "why" (.str y)) := by
  unfold m_Hall___init__
  refine wrE_fnX rfl (.seq (.bind (wp_ret (w := callM (L6 m_fault_of) _) hf (.nx (.seq (.ite (.test (.bind (.ret (.ret ⟨true, rfl, ?_⟩))))))))))
  exact ⟨_, _, rfl, rfl, rfl⟩
theorem nlA_map {α : Type} {f : α → U} (h : ∀ a, nlU (f a) = true) : ∀ l : List α, nlA (l.map f) = true
  | [] => rfl
  | a :: l => by simp [nlA, h a, nlA_map h l]
theorem nl_ints (l : List Int) : nlA (l.map U.int) = true := nlA_map (fun _ => rfl) l
theorem nl_good {L n s : Int} {W : List (List Int)} {x : Str} {B : U} {G : List Dc} (hB : nlU B = true) : nlU (hallObj L n s W x B G) = true := by
  have h1 : nlA (W.map tupI) = true := nlA_map (f := tupI) (fun w => show nlA (w.map U.int) = true from nl_ints w) W
  have h2 : nlA (G.map dU) = true := nlA_map (f := dU) (fun D => show nlA (dVs D) = true from nlA_map (f := fun p : Int × List Int => U.lst (p.2.map .int)) (fun p => show nlA (p.2.map U.int) = true from nl_ints p.2) D) G
  simp [hallObj, nlU, nlA, h1, h2, hB]
structure Six (w k : Nat) (a b c d e f : U) : Prop where
  ha : Tg w k a
  hb : Tg w k b
  hc : Tg w k c
  hd : Tg w k d
  he : Tg w k e
  hf : Tg w k f
  ld : ∀ us, d = .tup us → us.length ≤ 90000
  hn : ∀ n, b = .int n → n ≤ 4000
  hs : smB f = true
section
variable {a b c d e f : U} {w k : Nat} {st : Sto}
theorem Six.fault (h : Six w k a b c d e f) (hw : w ≤ 1000000) : m_fault_of a b c d e f = .ret (faultU a b c d e f) := fault_b h.ha h.hb h.hc h.hd h.he h.hf hw (fun n en => by have := h.hn n en; omega) h.hs
theorem built_good (h : Six w k a b c d e f) (hw : w ≤ 1000000) (hz : faultU a b c d e f = .non) : Wp (m__law_built (.tup [a, b, c, d, e, f])) st fun u s => s = st ∧ ∃ (L n s : Int) (W : List (List Int)) (x : Str) (G : List Dc), u = hallObj L n s W x f G ∧ [a, b, c, d, e, f] = [.int L, .int n, .int s, .tup (W.map tupI), .str x, f] := by
  have hF := h.fault hw
  rw [hz] at hF
  obtain ⟨L, n, s, W, x, rfl, rfl, rfl, rfl, rfl, n0, hW, hB⟩ := fault_non h.ha h.hb hz
  have hl := h.ld _ rfl
  rw [List.length_map] at hl
  have hnl := nl_data f h.hf.dt
  unfold m__law_built
  refine wp_fnX (Q := fun u s' => s' = st ∧ ∃ (L' n' s2 : Int) (W' : List (List Int)) (x' : Str) (G : List Dc), u = hallObj L' n' s2 W' x' f G ∧ [U.int L, .int n, .int s, .tup (W.map tupI), .str x, f] = [.int L', .int n', .int s2, .tup (W'.map tupI), .str x', f]) (fun u s ⟨_, _, _, _, _, _, G, e, _⟩ => by rw [e]; rfl) ?_
  refine .fn ?_
  walk_at "v"
  refine vs_exB ?_
  have hl' : (opq st).length = st.length := by unfold opq; rw [List.length_map, List.length_range]
  obtain ⟨u, st', ee, G, rfl, rfl⟩ := init_good (ms := opq st) n0 (h.hn n rfl) hW hl hB hF
  rw [hl'] at ee
  have hx : (opq st ++ [hallObj L n s W x f G])[st.length]? = some (hallObj L n s W x f G) := by rw [← hl']; simp
  refine ⟨hallObj L n s W x f G, st, ?_, ?_⟩
  · show (match m_Hall___init__ (.loc st.length) (.int L) (.int n) (.int s) (.tup (W.map tupI)) (.str x) f (opq st ++ [.obj "Hall" [] []]) with
      | some (.ok .non, st') => (match st'[st.length]? with
        | some u => if nlU u = true then some (Res.ok u, st) else none
        | none => none)
      | some (.er e, _) => if nlE e = true then some (.er e, st) else none
      | _ => none) = _
    rw [ee]
    simp only [hx]
    rw [if_pos (nl_good hnl)]
  · walk_at "v"
    exact ⟨rfl, L, n, s, W, x, G, rfl, rfl⟩
theorem built_bad {y : Str} (h : Six w k a b c d e f) (hw : w ≤ 1000000) (hz : faultU a b c d e f = .str y) : WrE (m__law_built (.tup [a, b, c, d, e, f])) st (.exo "NoHall" "why" (.str y)) := by
  have hF := h.fault hw
  rw [hz] at hF
  unfold m__law_built
  refine wrE_fnX rfl ?_
  walk_at "v"
  refine wrE_exB ?_
  have eb := init_bad (st := opq st ++ [.obj "Hall" [] []]) (i := st.length) hF
  show (match m_Hall___init__ (.loc st.length) a b c d e f (opq st ++ [.obj "Hall" [] []]) with
      | some (.ok .non, st') => (match st'[st.length]? with
        | some u => if nlU u = true then some (Res.ok u, st) else none
        | none => none)
      | some (.er e, _) => if nlE e = true then some (.er e, st) else none
      | _ => none) = _
  rw [show m_Hall___init__ (.loc st.length) a b c d e f (opq st ++ [.obj "Hall" [] []]) = _ from eb]
  rfl
end
theorem neU_fault {a b c d e f : U} : neU (faultU a b c d e f) (faultU a b c d e f) = some (.bl false) := by
  rcases fault_cases a b c d e f with hz | ⟨y, hz⟩
  · rw [hz]; rfl
  · rw [hz]
    show some (U.bl (!decide (y = y))) = _
    rw [decide_eq_true rfl]; rfl
structure El (u : U) : Prop where
  tg : Tg 700 3 u
  sm : smU' u = true
  nb : nbU u = true
  dp : dpU u ≤ 5
def Es (m : Nat) (us : List U) : Prop := us.length ≤ m ∧ ∀ x ∈ us, El x
theorem nbA_of : ∀ {us : List U}, (∀ x ∈ us, El x) → nbA us = true ∧ dpA us ≤ 5
  | [], _ => ⟨rfl, Nat.zero_le _⟩
  | u :: us, h => by
    have h1 := h u List.mem_cons_self
    have h2 := nbA_of fun x m => h x (List.mem_cons_of_mem _ m)
    exact ⟨by show (nbU u && nbA us) = true; rw [h1.nb, h2.1]; rfl, by show max (dpU u) (dpA us) ≤ 5; have := h1.dp; have := h2.2; omega⟩
theorem El.int {i : Int} (h : i.natAbs ≤ 1000) : El (.int i) := ⟨tg_int (by omega) (by decide), decide_eq_true (by omega), rfl, Nat.zero_le _⟩
theorem El.non : El .non := ⟨tg_non, rfl, rfl, Nat.zero_le _⟩
theorem ints_el {l : List Int} (h : ∀ i ∈ l, i.natAbs ≤ 1000) (hl : l.length ≤ 7) : El (.tup (l.map .int)) := by
  have t := tg_tup (us := l.map U.int) (w := 41) (k := 0) fun x m => by
    obtain ⟨i, mi, rfl⟩ := List.mem_map.mp m
    have := h i mi
    exact tg_int (by omega) (Nat.le_refl _)
  rw [List.length_map] at t
  refine ⟨t.mono (by omega) (by decide), rfl, ?_, ?_⟩
  · show nbA (l.map U.int) = true
    exact UX.nb_ints l
  · show dpA (l.map U.int) + 1 ≤ 5
    rw [UX.dp_ints]; decide
theorem Es.app {m n : Nat} {a b : List U} (h : Es m a) (h' : Es n b) : Es (m + n) (a ++ b) := ⟨by rw [List.length_append]; have := h.1; have := h'.1; omega, fun x mx => (List.mem_append.mp mx).elim (h.2 x) (h'.2 x)⟩
theorem Es.one {u : U} (h : El u) : Es 1 [u] := ⟨Nat.le_refl _, fun x m => by rw [List.mem_singleton.mp m]; exact h⟩
theorem Es.nil : Es 0 [] := ⟨Nat.le_refl _, fun _ m => nomatch m⟩
theorem Es.mono {m n : Nat} {a : List U} (h : Es m a) (l : m ≤ n) : Es n a := ⟨by have := h.1; omega, h.2⟩
theorem Es.cut {m : Nat} {a : List U} (h : Es m a) (lo hi : Option Int) : Es m (EL.cut a lo hi) := ⟨by
  unfold EL.cut
  have := h.1
  simp
  omega, fun x mx => h.2 x (EL.cut_sub mx)⟩
theorem Es.rev {m : Nat} {a : List U} (h : Es m a) : Es m a.reverse := ⟨by rw [List.length_reverse]; exact h.1, fun x mx => h.2 x (List.mem_reverse.mp mx)⟩
theorem cut_neg1 {a : List U} : (EL.cut a (some (-1)) none).length ≤ 1 := by
  unfold EL.cut
  simp [HT.sIx]
  omega
theorem Es.tup {m : Nat} {us : List U} (h : Es m us) (hm : m ≤ 300) : Tg 300000 4 (.tup us) ∧ smB (.tup us) = true := by
  refine ⟨(tg_tup fun x mx => (h.2 x mx).tg).mono ?_ (Nat.le_refl _), List.all_eq_true.mpr fun x mx => (h.2 x mx).sm⟩
  have := h.1
  omega
theorem Es.lst {m : Nat} {us : List U} (h : Es m us) (hm : m ≤ 300) : Tg 300000 4 (.lst us) ∧ smB (.lst us) = true := by
  refine ⟨(tg_lst fun x mx => (h.2 x mx).tg).mono ?_ (Nat.le_refl _), rfl⟩
  have := h.1
  omega
theorem eq_emp {m : Nat} {us : List U} (h : Es m us) : eqU (.tup us) (.tup []) = some (.bl (decide (us = []))) := by
  have k := nbA_of h.2
  exact eqU_nb (show nbU (.tup us) = true from k.1) rfl (by show dpA us + 1 ≤ 64; omega) (by decide) (by rw [decide_eq_true_eq]; simp)
theorem ne_emp {m : Nat} {us : List U} (h : Es m us) : neU (.tup us) (.tup []) = some (.bl (!decide (us = []))) := by
  have k := nbA_of h.2
  exact neU_nb (show nbU (.tup us) = true from k.1) rfl (by show dpA us + 1 ≤ 64; omega) (by decide) (by rw [decide_eq_true_eq]; simp)
theorem tkV {tl : Sto} {m : Int} {st : Sto} {Q : U → Sto → Prop} (h : Hd tl st) (h0 : 0 < m) (h1 : m < 1000000000) (k : ∀ (k : Int) (s : Sto), 0 ≤ k → k < m → Hd tl s → Q (.int k) s) : Wp (m__law_pick (.loc 0) (.int m)) st Q :=
  (pick_ok h h0 h1).mono fun _ s ⟨a, e, a0, a1, hs⟩ => e ▸ k a s a0 a1 hs
theorem ofV {tl : Sto} {us : List U} {st : Sto} {Q : U → Sto → Prop} (h : Hd tl st) (h0 : 0 < us.length) (h1 : us.length < 1000000000) (k : ∀ (u : U) (s : Sto), u ∈ us → Hd tl s → Q u s) : Wp (m__law_of (.loc 0) (.lst us)) st Q := (of_ok h h0 h1).mono fun u s ⟨mu, hs⟩ => k u s mu hs
def TL (m : Nat) (u : U) : Prop := ∃ us, Es m us ∧ (u = .tup us ∨ u = .lst us)
theorem ways_ok {tl : Sto} {m : Nat} {L n : Int} {us : List U} {st : Sto} {Q : U → Sto → Prop} (h : Hd tl st) (hL : L.natAbs ≤ 20) (hn : n.natAbs ≤ 20) (hu : Es m us) (hm : m ≤ 200) (k : ∀ u s, TL (m + 1) u → Hd tl s → Q u s) : Wp (m__law_ways (.loc 0) (.int L) (.int n) (.tup us)) st Q := by
  have sl : (1000002 : Nat) ≤ sizeLine := by decide
  have hl := hu.1
  have tri : ∀ a b c : Int, a.natAbs ≤ 1000 → b.natAbs ≤ 1000 → c.natAbs ≤ 1000 → El (.tup [.int a, .int b, .int c]) := fun a b c ha hb hc => ints_el (l := [a, b, c]) (fun i mi => by
    simp only [List.mem_cons, List.not_mem_nil, or_false] at mi
    rcases mi with rfl | rfl | rfl
    · exact ha
    · exact hb
    · exact hc) (by simp)
  unfold m__law_ways
  walk_at "v"
  refine tkV h (by decide) (by decide) fun w s w0 w1 h1 => ?_
  walk_at "v"
  refine if_any (fun q => ?_) fun q0 => ?_
  · walk_at "v"
    refine wo_add_t (by simp; omega) ?_
    exact k _ _ ⟨_, hu.app (.one (tri _ _ _ (by omega) (by omega) (by omega))), .inl rfl⟩ h1
  walk_at "v"
  refine if_any (fun q => ?_) fun q1 => ?_
  · walk_at "v"
    refine wo_add_t (by simp; omega) ?_
    exact k _ _ ⟨_, hu.app (.one (tri _ _ _ (by omega) (by omega) (by omega))), .inl rfl⟩ h1
  walk_at "v"
  refine if_any (fun q => ?_) fun q2 => ?_
  · walk_at "v"
    have hc := cut_neg1 (a := us)
    refine wo_add_t (by omega) ?_
    walk_at "v"
    refine wo_eq (eq_emp hu) ?_
    walk_at "v"
    by_cases he : us = []
    · subst he
      refine wo_eq (a := .int 1) rfl ?_
      refine wo_eq (a := .tup [.tup [.int n, .int 0, .int 0]]) rfl ?_
      refine wo_add_t (by simp; omega) ?_
      exact k _ _ ⟨_, (Es.one (tri _ _ _ (by omega) (by omega) (by omega))).mono (by omega), .inl rfl⟩ h1
    · rw [decide_eq_false he]
      refine wo_eq (a := .int 0) rfl ?_
      refine wo_eq (a := .tup []) rfl ?_
      refine wo_add_t (by simp; omega) ?_
      refine k _ _ ⟨_, ⟨?_, ?_⟩, .inl rfl⟩ h1
      · simp; omega
      · intro x mx
        rw [List.append_nil] at mx
        exact (List.mem_append.mp mx).elim (hu.2 x) ((hu.cut _ _).2 x)
  walk_at "v"
  refine if_any (fun q => ?_) fun q3 => ?_
  · walk_at "v"
    refine if_any (fun q => ?_) fun q => ?_
    · walk_at "v"
      refine wo_eq (a := .tup us.reverse) rfl ?_
      exact k _ _ ⟨_, hu.rev.mono (by omega), .inl rfl⟩ h1
    · walk_at "v"
      exact k _ _ ⟨_, (Es.one (tri 0 0 (-1) (by decide) (by decide) (by decide))).mono (by omega), .inl rfl⟩ h1
  walk_at "v"
  refine if_any (fun q => ?_) fun q4 => ?_
  · walk_at "v"
    refine wo_add_t (by simp; omega) ?_
    exact k _ _ ⟨_, ((Es.one (tri (-1) 0 0 (by decide) (by decide) (by decide))).app hu).mono (by omega), .inl rfl⟩ h1
  walk_at "v"
  refine if_any (fun q => ?_) fun q5 => ?_
  · walk_at "v"
    refine wo_add_t (by simp; omega) ?_
    exact k _ _ ⟨_, hu.app (.one (ints_el (l := [0, 0]) (by decide) (by decide))), .inl rfl⟩ h1
  walk_at "v"
  refine wo_add_t (by simp; omega) ?_
  walk_at "v"
  have hw : w = 6 ∨ w = 7 := by
    simp at q0 q1 q2 q3 q4 q5
    omega
  rcases hw with rfl | rfl
  · refine wo_eq (a := .lst us) rfl ?_
    exact k _ _ ⟨_, hu.mono (by omega), .inr rfl⟩ h1
  · refine wo_eq (a := .tup (us ++ [.non])) rfl ?_
    exact k _ _ ⟨_, hu.app (.one El.non), .inl rfl⟩ h1
theorem byb_ok {tl : Sto} {m : Nat} {n : Int} {e : U} {us : List U} {st : Sto} {Q : U → Sto → Prop} (h : Hd tl st) (hn : n.natAbs ≤ 20) (hu : Es m us) (hm : m ≤ 200) (k : ∀ u s, TL (m + 1) u → Hd tl s → Q u s) : Wp (m__law_by_bent (.loc 0) e (.int n) (.tup us)) st Q := by
  have sl : (1000002 : Nat) ≤ sizeLine := by decide
  have hl := hu.1
  have en : El (.int n) := .int (by omega)
  unfold m__law_by_bent
  walk_at "v"
  refine tkV h (by decide) (by decide) fun w s w0 w1 h1 => ?_
  walk_at "v"
  refine if_any (fun q => ?_) fun q0 => ?_
  · walk_at "v"
    refine wo_add_t (by simp; omega) ?_
    exact k _ _ ⟨_, hu.app (.one en), .inl rfl⟩ h1
  walk_at "v"
  refine if_any (fun q => ?_) fun q1 => ?_
  · walk_at "v"
    refine wo_eq (ne_emp hu) ?_
    walk_at "v"
    refine if_any (fun q => ?_) fun q => ?_
    · walk_at "v"
      have hc := cut_neg1 (a := us)
      refine wo_add_t (by omega) ?_
      exact k _ _ ⟨_, ⟨by rw [List.length_append]; omega, fun x mx => (List.mem_append.mp mx).elim (hu.2 x) ((hu.cut _ _).2 x)⟩, .inl rfl⟩ h1
    · walk_at "v"
      exact k _ _ ⟨_, (Es.one en).mono (by omega), .inl rfl⟩ h1
  walk_at "v"
  refine if_any (fun q => ?_) fun q2 => ?_
  · walk_at "v"
    exact k _ _ ⟨_, (hu.cut _ _).mono (by omega), .inl rfl⟩ h1
  walk_at "v"
  refine if_any (fun q => ?_) fun q3 => ?_
  · walk_at "v"
    refine wo_eq (a := .tup us.reverse) rfl ?_
    exact k _ _ ⟨_, hu.rev.mono (by omega), .inl rfl⟩ h1
  walk_at "v"
  refine if_any (fun q => ?_) fun q4 => ?_
  · walk_at "v"
    refine wo_add_t (by simp; omega) ?_
    refine k _ _ ⟨_, hu.app (.one ?_), .inl rfl⟩ h1
    have t1 : Tg 100 1 (.tup [.int n]) := (tg_tup (us := [U.int n]) (w := 41) (k := 0) fun x mx => by
      rw [List.mem_singleton.mp mx]; exact tg_int (by omega) (Nat.le_refl _)).mono (by show 1 * (41 + 1) ≤ 100; omega) (Nat.le_refl _)
    have t0 : Tg 100 1 (.tup []) := (tg_tup (us := []) (w := 41) (k := 0) fun x mx => nomatch mx).mono (by decide) (Nat.le_refl _)
    have t2 := tg_tup (us := [U.tup [], .tup [.int n]]) (w := 100) (k := 1) fun x mx => by
      rcases List.mem_cons.mp mx with rfl | mx
      · exact t0
      · rw [List.mem_singleton.mp mx]; exact t1
    exact ⟨t2.mono (by show 2 * (100+1) ≤ 700; omega) (by decide), rfl, rfl, by show max (0+1) (max (max 0 0 + 1) 0) + 1 ≤ 5; decide⟩
  walk_at "v"
  refine if_any (fun q => ?_) fun q5 => ?_
  · walk_at "v"
    refine wo_add_t (by simp [EL.cut]; omega) ?_
    exact k _ _ ⟨_, ((Es.one (.int (i := -1) (by decide))).app (hu.cut _ _)).mono (by omega), .inl rfl⟩ h1
  walk_at "v"
  exact k _ _ ⟨_, hu.mono (by omega), .inr rfl⟩ h1
structure T6 (m : Nat) (L n : Int) (c e : U) (ds fs : List U) : Prop where
  hL : L.natAbs ≤ 20
  hn : n.natAbs ≤ 20
  hc : Tg 100 2 c
  he : Tg 100 2 e
  hd : Es m ds
  hf : Es m fs
structure B6 (m : Nat) (a b c d e f : U) : Prop where
  ha : Tg 100 2 a
  hb : Tg 100 2 b
  hc : Tg 100 2 c
  hd : TL m d
  he : Tg 100 2 e
  hf : TL m f
  hn : ∀ n, b = .int n → n.natAbs ≤ 1000
theorem TL.tg {m : Nat} {u : U} (h : TL m u) (hm : m ≤ 300) : Tg 300000 4 u ∧ smB u = true := by
  obtain ⟨us, hu, rfl | rfl⟩ := h
  · exact hu.tup hm
  · exact hu.lst hm
theorem B6.six {m : Nat} {a b c d e f : U} (h : B6 m a b c d e f) (hm : m ≤ 300) : Six 300000 4 a b c d e f := by
  refine ⟨h.ha.mono (by decide) (by decide), h.hb.mono (by decide) (by decide), h.hc.mono (by decide) (by decide), (h.hd.tg hm).1, h.he.mono (by decide) (by decide), (h.hf.tg hm).1, ?_, ?_, (h.hf.tg hm).2⟩
  · intro us e
    obtain ⟨vs, hv, rfl | rfl⟩ := h.hd
    · cases e; have := hv.1; omega
    · cases e
  · intro n e
    have := h.hn n e
    omega
theorem ti {i : Int} (h : i.natAbs ≤ 1000) : Tg 100 2 (.int i) := tg_int (by omega) (by decide)
theorem T6.b6 {m : Nat} {L n : Int} {c e : U} {ds fs : List U} (h : T6 m L n c e ds fs) : B6 (m + 1) (.int L) (.int n) c (.tup ds) e (.tup fs) :=
  ⟨ti (by have := h.hL; omega), ti (by have := h.hn; omega), h.hc, ⟨ds, h.hd.mono (by omega), .inl rfl⟩, h.he, ⟨fs, h.hf.mono (by omega), .inl rfl⟩, fun k e => by cases e; have := h.hn; omega⟩
theorem bent_ok {tl : Sto} {m : Nat} {L n a : Int} {c e : U} {ds fs : List U} {st : Sto} (h : Hd tl st) (t : T6 m L n c e ds fs) (hm : m ≤ 200) (a0 : 0 ≤ a) (a1 : a ≤ 5) :
    Wp (m__law_bent (.loc 0) (.tup [.int L, .int n, c, .tup ds, e, .tup fs]) (.int a)) st fun u s => Hd tl s ∧ ∃ a b c d e f, u = .tup [a, b, c, d, e, f] ∧ B6 (m + 1) a b c d e f := by
  have T := t.b6
  have hL := t.hL
  have hn := t.hn
  have ha : a = 0 ∨ a = 1 ∨ a = 2 ∨ a = 3 ∨ a = 4 ∨ a = 5 := by omega
  unfold m__law_bent
  rcases ha with rfl | rfl | rfl | rfl | rfl | rfl
  · walk_at "v"
    refine if_p rfl ?_
    walk_at "v"
    refine ofV h (by simp) (by simp) fun v s mv h => ?_
    walk_at "v"
    refine wo_eq (a := .tup [v, .int n, c, .tup ds, e, .tup fs]) rfl ?_
    walk_at "v"
    refine ⟨h, _, _, _, _, _, _, rfl, { T with ha := ?_ }⟩
    simp only [List.mem_cons, List.not_mem_nil, or_false] at mv
    rcases mv with rfl | rfl | rfl | rfl | rfl | rfl | rfl | rfl
    · exact ti (by decide)
    · exact ti (by decide)
    · exact ti (by decide)
    · exact ti (by decide)
    · exact ti (by decide)
    · exact tg_bl
    · exact tg_str (okS_of "1") (by decide)
    · exact tg_non
  · walk_at "v"
    refine if_n (by decide) ?_
    walk_at "v"
    refine if_p rfl ?_
    walk_at "v"
    refine wo_eq (a := .int (if n - 1 > 1 then n - 1 else 1)) rfl ?_
    walk_at "v"
    refine ofV h (by simp) (by simp) fun v s mv h => ?_
    walk_at "v"
    refine wo_eq (a := .tup [.int L, v]) rfl ?_
    walk_at "v"
    refine wo_eq (a := .tup [.int L, v, c, .tup ds, e, .tup fs]) rfl ?_
    walk_at "v"
    simp only [List.mem_cons, List.not_mem_nil, or_false] at mv
    have hv : Tg 100 2 v ∧ ∀ k, v = .int k → k.natAbs ≤ 1000 := by
      rcases mv with rfl | rfl | rfl | rfl | rfl | rfl | rfl
      · exact ⟨ti (by decide), fun k e => by cases e; decide⟩
      · exact ⟨ti (by decide), fun k e => by cases e; decide⟩
      · exact ⟨ti (by omega), fun k e => by cases e; omega⟩
      · have z : (if n - 1 > 1 then n - 1 else 1).natAbs ≤ 1000 := by split <;> omega
        exact ⟨ti z, fun k e => by cases e; exact z⟩
      · exact ⟨ti (by decide), fun k e => by cases e; decide⟩
      · exact ⟨tg_bl, fun k e => nomatch e⟩
      · exact ⟨tg_non, fun k e => nomatch e⟩
    exact ⟨h, _, _, _, _, _, _, rfl, { T with hb := hv.1, hn := hv.2 }⟩
  · walk_at "v"
    refine if_n (by decide) ?_
    walk_at "v"
    refine if_n (by decide) ?_
    walk_at "v"
    refine if_p rfl ?_
    walk_at "v"
    refine ofV h (by simp) (by simp) fun v s mv h => ?_
    walk_at "v"
    refine wo_eq (a := .tup [.int L, .int n, v]) rfl ?_
    walk_at "v"
    refine wo_eq (a := .tup [.int L, .int n, v, .tup ds, e, .tup fs]) rfl ?_
    walk_at "v"
    simp only [List.mem_cons, List.not_mem_nil, or_false] at mv
    refine ⟨h, _, _, _, _, _, _, rfl, { T with hc := ?_ }⟩
    rcases mv with rfl | rfl | rfl | rfl | rfl | rfl | rfl
    · exact ti (by omega)
    · exact ti (by omega)
    · exact ti (by decide)
    · exact ti (by decide)
    · exact tg_bl
    · exact tg_non
    · exact ((TgS.one (tg_int (w := 41) (k := 0) (i := 0) (by decide) (by decide))).tup).mono (by decide) (by decide)
  · walk_at "v"
    refine if_n (by decide) ?_
    walk_at "v"
    refine if_n (by decide) ?_
    walk_at "v"
    refine if_n (by decide) ?_
    walk_at "v"
    refine if_p rfl ?_
    walk_at "v"
    refine ways_ok h hL hn t.hd hm fun v s hv h => ?_
    walk_at "v"
    refine wo_eq (a := .tup [.int L, .int n, c, v]) rfl ?_
    walk_at "v"
    refine wo_eq (a := .tup [.int L, .int n, c, v, e, .tup fs]) rfl ?_
    walk_at "v"
    exact ⟨h, _, _, _, _, _, _, rfl, { T with hd := hv }⟩
  · walk_at "v"
    refine if_n (by decide) ?_
    walk_at "v"
    refine if_n (by decide) ?_
    walk_at "v"
    refine if_n (by decide) ?_
    walk_at "v"
    refine if_n (by decide) ?_
    walk_at "v"
    refine if_p rfl ?_
    walk_at "v"
    refine ofV h (by simp) (by simp) fun v s mv h => ?_
    walk_at "v"
    refine wo_eq (a := .tup [.int L, .int n, c, .tup ds, v, .tup fs]) rfl ?_
    walk_at "v"
    simp only [List.mem_cons, List.not_mem_nil, or_false] at mv
    refine ⟨h, _, _, _, _, _, _, rfl, { T with he := ?_ }⟩
    rcases mv with rfl | rfl | rfl | rfl | rfl | rfl | rfl | rfl
    · exact tg_str (okS_of "again") (by decide)
    · exact tg_str (okS_of "ranks") (by decide)
    · exact tg_str (okS_of "pairs") (by decide)
    · exact tg_str (okS_of "at last") (by decide)
    · exact tg_str (okS_of "at-last") (by decide)
    · exact tg_str (okS_of "") (by decide)
    · exact tg_non
    · exact ti (by decide)
  · walk_at "v"
    refine if_n (by decide) ?_
    walk_at "v"
    refine if_n (by decide) ?_
    walk_at "v"
    refine if_n (by decide) ?_
    walk_at "v"
    refine if_n (by decide) ?_
    walk_at "v"
    refine if_n (by decide) ?_
    walk_at "v"
    refine byb_ok h hn t.hf hm fun v s hv h => ?_
    walk_at "v"
    refine wo_eq (a := .tup [.int L, .int n, c, .tup ds, e, v]) rfl ?_
    walk_at "v"
    exact ⟨h, _, _, _, _, _, _, rfl, { T with hf := hv }⟩
section
variable {a b c d e f : U} {w k : Nat} {st : Sto}
theorem refused_b (h : Six w k a b c d e f) (hw : w ≤ 1000000) : Wp (m__law_refused (.tup [a, b, c, d, e, f])) st fun u s => s = st ∧ u = faultU a b c d e f := by
  unfold m__law_refused
  walk_at "v"
  rcases fault_cases a b c d e f with hz | ⟨y, hz⟩
  · refine vs_tryN (vs_exB (vs_callX ?_))
    walk_at "v"
    refine (built_good h hw hz).mono ?_
    rintro u s ⟨rfl, -⟩
    refine .nx ⟨_, rfl, ?_⟩
    show Wp _ _ _
    walk_at "v"
    refine if_t ?_
    walk_at "v"
    exact ⟨rfl, hz.symm⟩
  · refine vs_tryF (e := .exo "NoHall" "why" (.str y)) rfl (wrE_exB (wrE_callX ?_)) rfl ?_
    · walk_at "v"
      exact ⟨rfl, built_bad h hw hz⟩
    · show Wp _ _ _
      walk_at "v"
      refine if_f ?_
      walk_at "v"
      refine wo_eq (a := .bl true) rfl ?_
      walk_at "v"
      refine wo_eq (a := .bl true) rfl ?_
      walk_at "v"
      refine wo_eq (a := .bl false) rfl ?_
      walk_at "v"
      refine wo_eq (a := .str y) rfl ?_
      walk_at "v"
      exact ⟨rfl, hz.symm⟩
end
theorem row_repr {k : Int} (h0 : 0 ≤ k) (h1 : k < 1000000000) : ∃ x, reprE (.lst [.str "ways", .str "ranks", .int k, .tup [.int k], .non]) = some (.str x) := by
  have hi : Tg 100 1 (.int k) := tg_int (by omega) (by decide)
  have hi0 : Tg 41 0 (.int k) := tg_int (by omega) (by decide)
  have ht : Tg 100 1 (.tup [.int k]) := ((TgS.one hi0).tup).mono (by decide) (by decide)
  have h1 : Tg 100 1 (.str "ways") := tg_str (okS_of "ways") (by decide)
  have h2 : Tg 100 1 (.str "ranks") := tg_str (okS_of "ranks") (by decide)
  have hn : Tg 100 1 .non := tg_non
  have t := ((TgS.cons h1 (TgS.cons h2 (TgS.cons hi (TgS.cons ht (TgS.one hn))))).lst)
  exact t.repr (by decide) (by decide)
def made (k : Int) : List U := [.exo "NoHall" "why" (.str "ways"), .exo "NoGame" "why" (.str "ranks"), .exo "NoText" "row" (.int k), .exo "NoSort" "asked" (.tup [.int k]), .exo "NoName" "name" .non, .exc "Unlike", .exc "TooMany", .exc "NotCertain", .exc "NoLine"]
theorem for_still {L : Type} {f : U → Unit → M (Out Unit Unit)} {us : List U} {s : Sto} {Q : Out Unit L → Sto → Prop} (hs : ∀ x ∈ us, Wp (f x ()) s (ForK (fun _ st' => st' = s) Q)) (hd : Q (.nx ()) s) : Wp (forO (L := L) f us ()) s Q := by
  have key := vs_for (c := fun u : U => u) (e := fun _ : Unit => ()) (f := f) (xs := us) (st := s) (Q := Q) (fun _ _ st => st = s) (s0 := ()) (t0 := ()) rfl rfl (fun pre x post _ st ex hst => by
    subst hst
    refine (hs x (by rw [ex]; simp)).mono fun o st' q => ?_
    cases o with
    | nx _ => exact ⟨(), rfl, q⟩
    | ct _ => exact ⟨(), rfl, q⟩
    | bk _ => exact q
    | rt _ => exact q) (fun _ st hst => by subst hst; exact hd)
  rw [show us.map (fun u => u) = us from List.map_id us] at key
  exact key
def isI (k : Int) : U → Bool
  | .int i => decide (i = k)
  | _ => false
theorem eq_in {n : Nat} {k : Int} {u : U} (m : u ∈ (List.range n).map fun i => U.int (i : Nat)) : op2 UX.eqU (.ret u) (.ret (.int k)) = .ret (.bl (isI k u)) := by
  obtain ⟨i, -, rfl⟩ := List.mem_map.mp m
  show M.o (UX.eqU (.int (i : Nat)) (.int k)) = _
  rw [eqU_int]; rfl
theorem errs_ok {tl : Sto} {st : Sto} (h : Hd tl st) : Wp (m__law_errors_right (.loc 0)) st fun u s => Hd tl s ∧ u = .bl true := by
  have sl : (1000002 : Nat) ≤ sizeLine := by decide
  unfold m__law_errors_right
  walk_at "v"
  refine wo_eq (a := .int 1000000000) (by rfl) ?_
  walk_at "v"
  refine (pick_big h (by decide) (by decide)).mono ?_
  rintro _ s ⟨k, rfl, k0, k1, h⟩
  walk_at "v"
  refine wo_eq (a := .lst (made k)) rfl ?_
  unfold made
  walk_at "v"
  refine wo_eq (a := .str "ways") rfl ?_
  walk_at "v"
  refine wo_eq (a := .str "ranks") rfl ?_
  walk_at "v"
  refine wo_eq (a := .int k) rfl ?_
  walk_at "v"
  refine wo_eq (a := .tup [.int k]) rfl ?_
  walk_at "v"
  refine wo_eq (a := .non) rfl ?_
  walk_at "v"
  obtain ⟨x, ex⟩ := row_repr k0 k1
  refine wo_eq ex ?_
  walk_at "v"
  refine wo_eq ex ?_
  walk_at "v"
  refine if_nn rfl ?_
  walk_at "v"
  refine for_still (fun x mx => ?_) ?_
  · have mx : x ∈ [U.tup [.int 0, .exo "NoHall" "why" (.str "ways")], .tup [.int 1, .exo "NoGame" "why" (.str "ranks")], .tup [.int 2, .exo "NoText" "row" (.int k)], .tup [.int 3, .exo "NoSort" "asked" (.tup [.int k])], .tup [.int 4, .exo "NoName" "name" .non], .tup [.int 5, .exc "Unlike"], .tup [.int 6, .exc "TooMany"], .tup [.int 7, .exc "NotCertain"], .tup [.int 8, .exc "NoLine"]] := mx
    simp only [List.mem_cons, List.not_mem_nil, or_false] at mx
    rcases mx with rfl | rfl | rfl | rfl | rfl | rfl | rfl | rfl | rfl
    · walk_at "v"
      refine wo_eq (a := .bl true) rfl ?_
      walk_at "v"
      refine wo_eq (a := .bl false) rfl ?_
      walk_at "v"
      refine wo_eq (a := .bl false) rfl ?_
      walk_at "v"
      refine wo_eq (a := .bl false) rfl ?_
      walk_at "v"
      refine wo_eq (a := .bl false) rfl ?_
      walk_at "v"
      refine wo_eq (a := .bl false) rfl ?_
      walk_at "v"
      refine wo_eq (a := .bl false) rfl ?_
      walk_at "v"
      refine wo_eq (a := .lst [.bl true, .bl false, .bl false, .bl false, .bl false, .bl false, .bl false]) rfl ?_
      walk_at "v"
      refine wo_eq (a := .bl false) rfl ?_
      walk_at "v"
      refine wo_eq (a := .bl false) rfl ?_
      walk_at "v"
      refine wo_eq (a := .lst [.bl true, .bl false, .bl false, .bl false, .bl false, .bl false, .bl false, .bl false, .bl false]) rfl ?_
      walk_at "v"
      refine vs_eq (comp_id (g := fun u => .bl (isI 0 u)) fun u m => ⟨rfl, eq_in m⟩) ⟨by simp; omega, ?_⟩
      refine wo_eq (a := .bl false) rfl ?_
      walk_at "v"
      refine wo_eq (a := .bl true) rfl ?_
      walk_at "v"
      refine wo_eq (a := .bl true) rfl ?_
      walk_at "v"
      rfl
    · walk_at "v"
      refine wo_eq (a := .bl false) rfl ?_
      walk_at "v"
      refine wo_eq (a := .bl true) rfl ?_
      walk_at "v"
      refine wo_eq (a := .bl false) rfl ?_
      walk_at "v"
      refine wo_eq (a := .bl false) rfl ?_
      walk_at "v"
      refine wo_eq (a := .bl false) rfl ?_
      walk_at "v"
      refine wo_eq (a := .bl false) rfl ?_
      walk_at "v"
      refine wo_eq (a := .bl false) rfl ?_
      walk_at "v"
      refine wo_eq (a := .lst [.bl false, .bl true, .bl false, .bl false, .bl false, .bl false, .bl false]) rfl ?_
      walk_at "v"
      refine wo_eq (a := .bl false) rfl ?_
      walk_at "v"
      refine wo_eq (a := .bl false) rfl ?_
      walk_at "v"
      refine wo_eq (a := .lst [.bl false, .bl true, .bl false, .bl false, .bl false, .bl false, .bl false, .bl false, .bl false]) rfl ?_
      walk_at "v"
      refine vs_eq (comp_id (g := fun u => .bl (isI 1 u)) fun u m => ⟨rfl, eq_in m⟩) ⟨by simp; omega, ?_⟩
      refine wo_eq (a := .bl false) rfl ?_
      walk_at "v"
      refine wo_eq (a := .bl true) rfl ?_
      walk_at "v"
      refine wo_eq (a := .bl true) rfl ?_
      walk_at "v"
      rfl
    · walk_at "v"
      refine wo_eq (a := .bl false) rfl ?_
      walk_at "v"
      refine wo_eq (a := .bl false) rfl ?_
      walk_at "v"
      refine wo_eq (a := .bl true) rfl ?_
      walk_at "v"
      refine wo_eq (a := .bl false) rfl ?_
      walk_at "v"
      refine wo_eq (a := .bl false) rfl ?_
      walk_at "v"
      refine wo_eq (a := .bl false) rfl ?_
      walk_at "v"
      refine wo_eq (a := .bl false) rfl ?_
      walk_at "v"
      refine wo_eq (a := .lst [.bl false, .bl false, .bl true, .bl false, .bl false, .bl false, .bl false]) rfl ?_
      walk_at "v"
      refine wo_eq (a := .bl false) rfl ?_
      walk_at "v"
      refine wo_eq (a := .bl false) rfl ?_
      walk_at "v"
      refine wo_eq (a := .lst [.bl false, .bl false, .bl true, .bl false, .bl false, .bl false, .bl false, .bl false, .bl false]) rfl ?_
      walk_at "v"
      refine vs_eq (comp_id (g := fun u => .bl (isI 2 u)) fun u m => ⟨rfl, eq_in m⟩) ⟨by simp; omega, ?_⟩
      refine wo_eq (a := .bl false) rfl ?_
      walk_at "v"
      refine wo_eq (a := .bl true) rfl ?_
      walk_at "v"
      refine wo_eq (a := .bl true) rfl ?_
      walk_at "v"
      rfl
    · walk_at "v"
      refine wo_eq (a := .bl false) rfl ?_
      walk_at "v"
      refine wo_eq (a := .bl false) rfl ?_
      walk_at "v"
      refine wo_eq (a := .bl false) rfl ?_
      walk_at "v"
      refine wo_eq (a := .bl true) rfl ?_
      walk_at "v"
      refine wo_eq (a := .bl false) rfl ?_
      walk_at "v"
      refine wo_eq (a := .bl false) rfl ?_
      walk_at "v"
      refine wo_eq (a := .bl false) rfl ?_
      walk_at "v"
      refine wo_eq (a := .lst [.bl false, .bl false, .bl false, .bl true, .bl false, .bl false, .bl false]) rfl ?_
      walk_at "v"
      refine wo_eq (a := .bl false) rfl ?_
      walk_at "v"
      refine wo_eq (a := .bl false) rfl ?_
      walk_at "v"
      refine wo_eq (a := .lst [.bl false, .bl false, .bl false, .bl true, .bl false, .bl false, .bl false, .bl false, .bl false]) rfl ?_
      walk_at "v"
      refine vs_eq (comp_id (g := fun u => .bl (isI 3 u)) fun u m => ⟨rfl, eq_in m⟩) ⟨by simp; omega, ?_⟩
      refine wo_eq (a := .bl false) rfl ?_
      walk_at "v"
      refine wo_eq (a := .bl true) rfl ?_
      walk_at "v"
      refine wo_eq (a := .bl true) rfl ?_
      walk_at "v"
      rfl
    · walk_at "v"
      refine wo_eq (a := .bl false) rfl ?_
      walk_at "v"
      refine wo_eq (a := .bl false) rfl ?_
      walk_at "v"
      refine wo_eq (a := .bl false) rfl ?_
      walk_at "v"
      refine wo_eq (a := .bl false) rfl ?_
      walk_at "v"
      refine wo_eq (a := .bl true) rfl ?_
      walk_at "v"
      refine wo_eq (a := .bl false) rfl ?_
      walk_at "v"
      refine wo_eq (a := .bl false) rfl ?_
      walk_at "v"
      refine wo_eq (a := .lst [.bl false, .bl false, .bl false, .bl false, .bl true, .bl false, .bl false]) rfl ?_
      walk_at "v"
      refine wo_eq (a := .bl false) rfl ?_
      walk_at "v"
      refine wo_eq (a := .bl false) rfl ?_
      walk_at "v"
      refine wo_eq (a := .lst [.bl false, .bl false, .bl false, .bl false, .bl true, .bl false, .bl false, .bl false, .bl false]) rfl ?_
      walk_at "v"
      refine vs_eq (comp_id (g := fun u => .bl (isI 4 u)) fun u m => ⟨rfl, eq_in m⟩) ⟨by simp; omega, ?_⟩
      refine wo_eq (a := .bl false) rfl ?_
      walk_at "v"
      refine wo_eq (a := .bl true) rfl ?_
      walk_at "v"
      refine wo_eq (a := .bl true) rfl ?_
      walk_at "v"
      rfl
    · walk_at "v"
      refine wo_eq (a := .bl false) rfl ?_
      walk_at "v"
      refine wo_eq (a := .bl false) rfl ?_
      walk_at "v"
      refine wo_eq (a := .bl false) rfl ?_
      walk_at "v"
      refine wo_eq (a := .bl false) rfl ?_
      walk_at "v"
      refine wo_eq (a := .bl false) rfl ?_
      walk_at "v"
      refine wo_eq (a := .bl true) rfl ?_
      walk_at "v"
      refine wo_eq (a := .bl false) rfl ?_
      walk_at "v"
      refine wo_eq (a := .lst [.bl false, .bl false, .bl false, .bl false, .bl false, .bl true, .bl false]) rfl ?_
      walk_at "v"
      refine wo_eq (a := .bl false) rfl ?_
      walk_at "v"
      refine wo_eq (a := .bl false) rfl ?_
      walk_at "v"
      refine wo_eq (a := .lst [.bl false, .bl false, .bl false, .bl false, .bl false, .bl true, .bl false, .bl false, .bl false]) rfl ?_
      walk_at "v"
      refine vs_eq (comp_id (g := fun u => .bl (isI 5 u)) fun u m => ⟨rfl, eq_in m⟩) ⟨by simp; omega, ?_⟩
      refine wo_eq (a := .bl false) rfl ?_
      walk_at "v"
      refine wo_eq (a := .bl true) rfl ?_
      walk_at "v"
      refine wo_eq (a := .bl true) rfl ?_
      walk_at "v"
      rfl
    · walk_at "v"
      refine wo_eq (a := .bl false) rfl ?_
      walk_at "v"
      refine wo_eq (a := .bl false) rfl ?_
      walk_at "v"
      refine wo_eq (a := .bl false) rfl ?_
      walk_at "v"
      refine wo_eq (a := .bl false) rfl ?_
      walk_at "v"
      refine wo_eq (a := .bl false) rfl ?_
      walk_at "v"
      refine wo_eq (a := .bl false) rfl ?_
      walk_at "v"
      refine wo_eq (a := .bl true) rfl ?_
      walk_at "v"
      refine wo_eq (a := .lst [.bl false, .bl false, .bl false, .bl false, .bl false, .bl false, .bl true]) rfl ?_
      walk_at "v"
      refine wo_eq (a := .bl false) rfl ?_
      walk_at "v"
      refine wo_eq (a := .bl false) rfl ?_
      walk_at "v"
      refine wo_eq (a := .lst [.bl false, .bl false, .bl false, .bl false, .bl false, .bl false, .bl true, .bl false, .bl false]) rfl ?_
      walk_at "v"
      refine vs_eq (comp_id (g := fun u => .bl (isI 6 u)) fun u m => ⟨rfl, eq_in m⟩) ⟨by simp; omega, ?_⟩
      refine wo_eq (a := .bl false) rfl ?_
      walk_at "v"
      refine wo_eq (a := .bl true) rfl ?_
      walk_at "v"
      refine wo_eq (a := .bl true) rfl ?_
      walk_at "v"
      rfl
    · walk_at "v"
      refine wo_eq (a := .bl false) rfl ?_
      walk_at "v"
      refine wo_eq (a := .bl false) rfl ?_
      walk_at "v"
      refine wo_eq (a := .bl false) rfl ?_
      walk_at "v"
      refine wo_eq (a := .bl false) rfl ?_
      walk_at "v"
      refine wo_eq (a := .bl false) rfl ?_
      walk_at "v"
      refine wo_eq (a := .bl false) rfl ?_
      walk_at "v"
      refine wo_eq (a := .bl false) rfl ?_
      walk_at "v"
      refine wo_eq (a := .lst [.bl false, .bl false, .bl false, .bl false, .bl false, .bl false, .bl false]) rfl ?_
      walk_at "v"
      refine wo_eq (a := .bl true) rfl ?_
      walk_at "v"
      refine wo_eq (a := .bl false) rfl ?_
      walk_at "v"
      refine wo_eq (a := .lst [.bl false, .bl false, .bl false, .bl false, .bl false, .bl false, .bl false, .bl true, .bl false]) rfl ?_
      walk_at "v"
      refine vs_eq (comp_id (g := fun u => .bl (isI 7 u)) fun u m => ⟨rfl, eq_in m⟩) ⟨by simp; omega, ?_⟩
      refine wo_eq (a := .bl false) rfl ?_
      walk_at "v"
      refine wo_eq (a := .bl true) rfl ?_
      walk_at "v"
      refine wo_eq (a := .bl true) rfl ?_
      walk_at "v"
      rfl
    · walk_at "v"
      refine wo_eq (a := .bl false) rfl ?_
      walk_at "v"
      refine wo_eq (a := .bl false) rfl ?_
      walk_at "v"
      refine wo_eq (a := .bl false) rfl ?_
      walk_at "v"
      refine wo_eq (a := .bl false) rfl ?_
      walk_at "v"
      refine wo_eq (a := .bl false) rfl ?_
      walk_at "v"
      refine wo_eq (a := .bl false) rfl ?_
      walk_at "v"
      refine wo_eq (a := .bl false) rfl ?_
      walk_at "v"
      refine wo_eq (a := .lst [.bl false, .bl false, .bl false, .bl false, .bl false, .bl false, .bl false]) rfl ?_
      walk_at "v"
      refine wo_eq (a := .bl false) rfl ?_
      walk_at "v"
      refine wo_eq (a := .bl true) rfl ?_
      walk_at "v"
      refine wo_eq (a := .lst [.bl false, .bl false, .bl false, .bl false, .bl false, .bl false, .bl false, .bl false, .bl true]) rfl ?_
      walk_at "v"
      refine vs_eq (comp_id (g := fun u => .bl (isI 8 u)) fun u m => ⟨rfl, eq_in m⟩) ⟨by simp; omega, ?_⟩
      refine wo_eq (a := .bl false) rfl ?_
      walk_at "v"
      refine wo_eq (a := .bl true) rfl ?_
      walk_at "v"
      refine wo_eq (a := .bl true) rfl ?_
      walk_at "v"
      rfl
  · walk_at "v"
    exact ⟨h, rfl⟩
theorem map_erase : ∀ (l : List Int) (k : Nat), (l.map U.int).eraseIdx k = (l.eraseIdx k).map .int
  | [], _ => rfl
  | x :: l, 0 => rfl
  | x :: l, k + 1 => by rw [List.map_cons, List.eraseIdx_cons_succ, List.eraseIdx_cons_succ, List.map_cons, map_erase l k]
theorem popAt_at {l : List Int} {k : Int} (k0 : 0 ≤ k) (k1 : k < (l.length : Int)) (lm : l.length ≤ 1000) : popAtL (l.map U.int) [.int k] = some (.int (l.getD k.toNat 0), (l.eraseIdx k.toNat).map .int) := by
  have hk : k.toNat < l.length := by omega
  have e : seqIndex? k (l.map U.int).length = some k.toNat := by
    unfold seqIndex?
    rw [List.length_map]
    simp only [if_neg (show ¬ k < 0 by omega)]
    rw [if_pos (by simp; omega)]
  unfold popAtL
  simp only
  rw [if_pos ⟨by omega, by omega⟩, e]
  simp only
  rw [List.getElem?_map, List.getElem?_eq_getElem hk]
  simp only [Option.map_some]
  rw [List.getD, List.getElem?_eq_getElem hk, Option.getD_some]
  congr 2
  exact map_erase l k.toNat
abbrev ord (os : List Int) : U := .lst (os.map .int)
theorem wp_popV {ms : Sto} {n : Nat} {l : List Int} {wi : M U} {Q : U → Sto → Prop} (hn : n = ms.length)
    (h : Wp wi (ms ++ [ord l]) fun u s => ∃ k : Int, u = .int k ∧ 0 ≤ k ∧ k < (l.length : Int) ∧ l.length ≤ 1000 ∧ ∃ ms', n = ms'.length ∧ s = ms' ++ [ord l] ∧ Q (.int (l.getD k.toNat 0)) (ms' ++ [ord (l.eraseIdx k.toNat)])) :
    Wp (popCM (.loc n) wi) (ms ++ [ord l]) Q := by
  subst hn
  unfold popCM
  refine Wp.bind (.eq (loc_at _ _) (.bind (.o rfl (.bind (h.mono fun u s hh => ?_)))))
  obtain ⟨k, rfl, k0, k1, lm, ms', el, rfl, q⟩ := hh
  rw [el]
  refine .bind (.eq (loc_at _ _) (.bind (.o (a := (.int (l.getD k.toNat 0), (ms'.length, (ord (l.eraseIdx k.toNat), id)))) ?_ (.bind (.eq (a := ()) (s := ms' ++ [ord (l.eraseIdx k.toNat)]) (put_at _ _ _) (.ret q))))))
  unfold mutC
  simp only
  rw [if_pos ⟨leaf_ints l, rfl⟩, popAt_at k0 k1 lm]
  simp only
  rw [if_pos (leaf_ints _)]
  rfl
theorem hs_snoc (tl : Sto) (x : U) (cs : List Int) (s : Int) : hs (tl ++ [x]) cs s = hs tl cs s ++ [x] := rfl
theorem hs_len (tl : Sto) (cs : List Int) (s : Int) : (hs tl cs s).length = tl.length + 1 := rfl
theorem pop_ok {tl : Sto} {os : List Int} {st : Sto} {Q : U → Sto → Prop} (h : Hd (tl ++ [ord os]) st) (l0 : 0 < os.length) (l1 : os.length ≤ 6) (hb : ∀ x ∈ os, 0 ≤ x ∧ x ≤ 5)
    (k : ∀ (x : Int) (os' : List Int) (st' : Sto), 0 ≤ x → x ≤ 5 → os'.length + 1 = os.length → (∀ x ∈ os', 0 ≤ x ∧ x ≤ 5) → Hd (tl ++ [ord os']) st' → Q (.int x) st') :
    Wp (popCM (.loc (tl.length + 1)) (callM (L2' m__law_pick) (consA (.ret (.loc 0)) (consA (.bind (.bind (.ret (.loc (tl.length + 1))) locM) fun c => .o (lenLU c.2.1)) nilA)))) st Q := by
  obtain ⟨cs, s, rfl, b0, b1⟩ := id h
  rw [hs_snoc]
  refine wp_popV (hs_len tl cs s).symm ?_
  rw [← hs_len tl cs s]
  refine .call (.consA (.ret (.consA (.bind (.bind (.ret (.eq (loc_at _ _) (.o (a := .int ((os.map U.int).length : Nat)) rfl (.nilA ?_)))))))))
  rw [List.length_map]
  refine (pick_ok h (by omega) (by omega)).mono ?_
  rintro _ st' ⟨i, rfl, i0, i1, cs', s', rfl, c0, c1⟩
  refine ⟨i, rfl, i0, i1, by omega, hs tl cs' s', rfl, rfl, ?_⟩
  have hk : i.toNat < os.length := by omega
  have hx : os.getD i.toNat 0 ∈ os := by
    rw [List.getD, List.getElem?_eq_getElem hk, Option.getD_some]
    exact List.getElem_mem hk
  refine k _ (os.eraseIdx i.toNat) _ (hb _ hx).1 (hb _ hx).2 ?_ ?_ ⟨cs', s', rfl, c0, c1⟩
  · rw [List.length_eraseIdx, if_pos hk]; omega
  · exact fun x m => hb x (List.mem_of_mem_eraseIdx m)
def c5 : List Int → Int
  | [r, l, e] => r * 20 + l * 5 + e
  | _ => 0
theorem wok_100 {n L : Int} {W : List (List Int)} (h : WOk n L W) (n1 : n ≤ 5) (l1 : L ≤ 4) : W.length ≤ 100 := by
  have hb : ∀ r ∈ W.map c5, 0 ≤ r ∧ r < 100 := fun r m => by
    obtain ⟨w, mw, rfl⟩ := List.mem_map.mp m
    obtain ⟨a, b, c, rfl, _⟩ := h.1 w mw
    simp only [c5]; omega
  have hp : (W.map c5).Pairwise (· < ·) := by
    refine List.pairwise_map.mpr (h.2.imp_of_mem fun {a b} ma mb q => ?_)
    obtain ⟨a1, a2, a3, rfl, _⟩ := h.1 a ma
    obtain ⟨b1, b2, b3, rfl, _⟩ := h.1 b mb
    simp only [lexLt, c5] at *
    omega
  have := rise_len (W.map c5) 0 100 hp hb
  rw [List.length_map] at this
  omega
theorem ways_es {n L : Int} {W : List (List Int)} (h : WOk n L W) (n1 : n ≤ 5) (l1 : L ≤ 4) : Es 100 (W.map tupI) := ⟨by rw [List.length_map]; exact wok_100 h n1 l1, fun x m => by
  obtain ⟨w, mw, rfl⟩ := List.mem_map.mp m
  obtain ⟨a, b, c, rfl, _⟩ := h.1 w mw
  exact ints_el (l := [a, b, c]) (fun r m => by
    simp only [List.mem_cons, List.not_mem_nil, or_false] at m
    omega) (by simp)⟩
theorem rs_es {n : Int} {rs : List Int} (h : Rs n rs) (n0 : 1 ≤ n) (n1 : n ≤ 5) : Es 5 (rs.map .int) := ⟨by rw [List.length_map]; have := h.len (by omega); omega, fun x m => by
  obtain ⟨r, mr, rfl⟩ := List.mem_map.mp m
  have := h.2 r mr
  exact .int (by omega)⟩
theorem pair_el {n : Int} {p : List Int × List Int} (h1 : Rs n p.1) (h2 : Rs n p.2) (n0 : 1 ≤ n) (n1 : n ≤ 5) : El (pairU p) := by
  have t : ∀ {rs : List Int}, Rs n rs → Tg 210 1 (.tup (rs.map .int)) := fun {rs} h => by
    have hl := h.len (by omega)
    exact (tgS_ints (b := 5) (k := 0) (fun r m => by have := h.2 r m; omega) (by omega)).tup
  refine ⟨((TgS.cons (t h1) (TgS.one (t h2))).tup).mono (by decide) (by decide), rfl, ?_, ?_⟩
  · show (nbA _ && (nbA _ && true)) = true
    rw [UX.nb_ints, UX.nb_ints]; rfl
  · show max (dpA _ + 1) (max (dpA _ + 1) 0) + 1 ≤ 5
    rw [UX.dp_ints, UX.dp_ints]; decide
theorem by_es {n : Int} {x : Str} {B : U} (h : ByOk n x B) (n0 : 1 ≤ n) (n1 : n ≤ 5) : ∃ fs, B = .tup fs ∧ Es 5 fs := by
  cases h with
  | again h => exact ⟨_, rfl, rs_es h n0 n1⟩
  | last h => exact ⟨_, rfl, rs_es h n0 n1⟩
  | @pairs ps l h =>
    refine ⟨_, rfl, by rw [List.length_map]; omega, fun x m => ?_⟩
    obtain ⟨p, mp, rfl⟩ := List.mem_map.mp m
    exact pair_el (h p mp).1 (h p mp).2 n0 n1
  | @ranks rk l h =>
    refine ⟨_, rfl, by rw [List.length_map]; omega, fun x m => ?_⟩
    obtain ⟨r, mr, rfl⟩ := List.mem_map.mp m
    have := h r mr
    exact .int (by omega)
theorem hall_t6 {L n : Int} {u : U} (h : HallOk L n u) (l0 : 1 ≤ L) (l1 : L ≤ 4) (n0 : 1 ≤ n) (n1 : n ≤ 4) : ∃ c e ds fs, u = .tup [.int L, .int n, c, .tup ds, e, .tup fs] ∧ T6 100 L n c e ds fs := by
  obtain ⟨s, W, kind, B, rfl, s0, s1, hW, hk, hB⟩ := h.ex
  obtain ⟨fs, rfl, hf⟩ := by_es hB n0 (by omega)
  refine ⟨_, _, _, _, rfl, by omega, by omega, ti (by omega), ?_, ways_es hW (by omega) l1, hf.mono (by decide)⟩
  have hx : kind = "again" ∨ kind = "at last" ∨ kind = "pairs" ∨ kind = "ranks" := by simpa [kinds4] using hk
  rcases hx with rfl | rfl | rfl | rfl
  · exact tg_str (okS_of "again") (by decide)
  · exact tg_str (okS_of "at last") (by decide)
  · exact tg_str (okS_of "pairs") (by decide)
  · exact tg_str (okS_of "ranks") (by decide)
def S6 (m : Nat) (u : U) : Prop := ∃ (L n : Int) (c e : U) (ds fs : List U), u = .tup [.int L, .int n, c, .tup ds, e, .tup fs] ∧ T6 m L n c e ds fs
theorem numR_inv {lo hi : Int} {u : U} (h : numR lo hi u = true) : ∃ i : Int, u = .int i ∧ lo ≤ i ∧ i < hi := by
  cases u with
  | int i => exact ⟨i, rfl, by simpa [numR] using h⟩
  | _ => cases h
theorem S6.mono {m n : Nat} {u : U} (h : S6 m u) (l : m ≤ n) : S6 n u := by
  obtain ⟨L, n, c, e, ds, fs, rfl, t⟩ := h
  exact ⟨L, n, c, e, ds, fs, rfl, t.hL, t.hn, t.hc, t.he, t.hd.mono l, t.hf.mono l⟩
theorem S6.of {m : Nat} {a b c e : U} {ds fs : List U} (h : B6 m a b c (.tup ds) e (.tup fs)) (h1 : numR (-9) 9 a = true) (h2 : numR (-9) 9 b = true) : S6 m (.tup [a, b, c, .tup ds, e, .tup fs]) := by
  obtain ⟨L, rfl, a0, a1⟩ := numR_inv h1
  obtain ⟨n, rfl, b0, b1⟩ := numR_inv h2
  refine ⟨L, n, c, e, ds, fs, rfl, by omega, by omega, h.hc, h.he, ?_, ?_⟩
  · obtain ⟨us, hu, e | e⟩ := h.hd
    · cases e; exact hu
    · cases e
  · obtain ⟨us, hu, e | e⟩ := h.hf
    · cases e; exact hu
    · cases e
theorem law_wp {ns : List Int} (hns : ns.length ≤ 63) : Wp (m_law (.frl (ns.map .int))) [] fun u _ => u = .bl true := by
  have sz : (1000000 : Nat) ≤ sizeLine := by decide
  unfold m_law
  walk_at "v"
  refine (hand_ok hns).mono ?_
  rintro _ s ⟨rfl, h0⟩
  walk_at "v"
  refine (errs_ok h0).mono ?_
  rintro _ s ⟨h0, rfl⟩
  walk_at "v"
  refine vs_forN (e := fun _ : Unit => ()) (fun _ _ st => ∃ tl, Hd tl st) (t0 := ()) rfl ⟨_, h0⟩ ?_ ?_
  · rintro i _ st hi ⟨tl, h⟩
    walk_at "v"
    refine tkV h (by decide) (by decide) fun a s a0 a1 h => ?_
    walk_at "v"
    refine (hall_ok (L := 1 + a) (m := 4) h (by omega) (by omega) (by decide) (by decide)).mono ?_
    rintro u s ⟨⟨n, n0, n1, hu⟩, h⟩
    obtain ⟨c, e, ds, fs, rfl, t⟩ := hall_t6 hu (by omega) (by omega) n0 n1
    walk_at "v"
    obtain ⟨cs, s0, rfl, b0, b1⟩ := h
    refine wo_eq (a := .int 0) rfl ?_
    walk_at "v"
    refine wo_eq (a := .int 1) rfl ?_
    walk_at "v"
    refine wo_eq (a := .int 2) rfl ?_
    walk_at "v"
    refine wo_eq (a := .int 3) rfl ?_
    walk_at "v"
    refine wo_eq (a := .int 4) rfl ?_
    walk_at "v"
    refine wo_eq (a := .int 5) rfl ?_
    walk_at "v"
    refine wo_eq (a := ord [0, 1, 2, 3, 4, 5]) rfl ?_
    refine Wp.eq (a := .loc (tl.length + 1)) (s := hs (tl ++ [ord [0, 1, 2, 3, 4, 5]]) cs s0) rfl ?_
    have h : Hd (tl ++ [ord [0, 1, 2, 3, 4, 5]]) (hs (tl ++ [ord [0, 1, 2, 3, 4, 5]]) cs s0) := ⟨cs, s0, rfl, b0, b1⟩
    generalize hs (tl ++ [ord [0, 1, 2, 3, 4, 5]]) cs s0 = s at h
    walk_at "v"
    refine tkV h (by decide) (by decide) fun b s c0 c1 h => ?_
    walk_at "v"
    refine vs_forN (e := fun u : U => u) (fun i u st => S6 (100 + i) u ∧ ∃ os : List Int, os.length + i = 6 ∧ (∀ x ∈ os, 0 ≤ x ∧ x ≤ 5) ∧ Hd (tl ++ [ord os]) st) (t0 := .tup [.int (1 + a), .int n, c, .tup ds, e, .tup fs]) rfl ⟨⟨_, _, _, _, _, _, rfl, t⟩, _, rfl, by decide, h⟩ ?_ ?_
    · rintro i u st hi ⟨⟨L, n, c, e, ds, fs, rfl, t⟩, os, lo, ho, h⟩
      walk_at "v"
      have i4 : i < 4 := by omega
      refine pop_ok h (by omega) (by omega) ho fun x os' s x0 x1 l' ho' h => ?_
      walk_at "v"
      refine (bent_ok h t (by omega) x0 x1).mono ?_
      rintro _ s ⟨h, a, b, c', d, e', f, rfl, hb⟩
      have s6 := hb.six (by omega)
      have S : S6 (100 + (i + 1)) (.tup [.int L, .int n, c, .tup ds, e, .tup fs]) := S6.mono ⟨_, _, _, _, _, _, rfl, t⟩ (by omega)
      walk_at "v"
      refine vs_eq (lwhole_b s6.ha.dt) ?_
      walk_at "v"
      refine vs_eq (lwhole_b s6.hb.dt) ?_
      walk_at "v"
      have fin : ∀ {u : U}, S6 (100 + (i + 1)) u → ∃ t, u = t ∧ S6 (100 + (i + 1)) t ∧ ∃ os : List Int, os.length + (i + 1) = 6 ∧ (∀ x ∈ os, 0 ≤ x ∧ x ≤ 5) ∧ Hd (tl ++ [ord os]) s := fun hu => ⟨_, rfl, hu, os', by omega, ho', h⟩
      obtain ⟨us, hd, rfl | rfl⟩ := hb.hd
      · walk_at "v"
        refine wo_eq (a := .bl true) rfl ?_
        walk_at "v"
        refine (refused_b s6 (by decide)).mono ?_
        rintro _ _ ⟨rfl, rfl⟩
        walk_at "v"
        refine vs_eq (due_b s6.ha s6.hb s6.hc s6.hd s6.he s6.hf (by decide)) ?_
        walk_at "v"
        refine wo_eq neU_fault ?_
        walk_at "v"
        walk_at "v"
        cases h1 : numR (-9) 9 a
        · refine wo_eq (a := .bl false) rfl ?_
          walk_at "v"
          exact fin S
        cases h2 : numR (-9) 9 b
        · refine wo_eq (a := .bl false) rfl ?_
          walk_at "v"
          exact fin S
        refine wo_eq (a := .bl true) rfl ?_
        walk_at "v"
        obtain ⟨vs, hf, rfl | rfl⟩ := hb.hf
        · refine wo_eq (a := .bl true) rfl ?_
          walk_at "v"
          exact fin (S6.of hb h1 h2)
        · refine wo_eq (a := .bl false) rfl ?_
          walk_at "v"
          exact fin S
      · walk_at "v"
        refine wo_eq (a := .bl false) rfl ?_
        walk_at "v"
        refine (refused_b s6 (by decide)).mono ?_
        rintro _ _ ⟨rfl, rfl⟩
        walk_at "v"
        refine vs_eq (due_b s6.ha s6.hb s6.hc s6.hd s6.he s6.hf (by decide)) ?_
        walk_at "v"
        refine wo_eq neU_fault ?_
        walk_at "v"
        walk_at "v"
        refine wo_eq (a := .bl false) ?_ ?_
        · cases numR (-9) 9 a <;> cases numR (-9) 9 b <;> rfl
        walk_at "v"
        exact fin S
    · rintro u st ⟨-, os, -, -, h⟩
      walk_at "v"
      exact ⟨(), rfl, _, h⟩
  · rintro _ st _
    walk_at "v"
    rfl
theorem law_ok : ∀ ns : List Int, ns.length ≤ 63 → ∃ st', m_law (.frl (ns.map .int)) [] = some (.ok (.bl true), st') := by
  intro ns hns
  obtain ⟨u, st, e, rfl⟩ := law_wp hns
  exact ⟨st, e⟩
open HD
theorem facts {P : Program} {w : World} {K : PySem.W.Frag} {h : Heap} {mg : Str → Option Value} {f : Addr} (X : K.In h) (G : h.Ns mainGlobals mg) (hfa : mg ("law" : Str) = some (.ref f)) (c0 : SaysS fa fn ts vls xs w K) :
    ∃ fd : FuncData, (∀ (s : Shared) (v : Value), BindsTo s fd ⟨[v], []⟩ [("_law_script", v)]) ∧ ∀ base : Heap, K.In base → base.Ns mainGlobals mg → FnG P w K mg base CX0 11 f fd ["_law_script"] (spM ⟨K, He.ga K⟩ (L1 m_law)) := by
  have c : SaysU fa fn ts vls w K := c0.1.u
  obtain ⟨fd__law_hand, F__law_hand⟩ := c.d.def_ 0 (d := mkD "_law_hand" 31) rfl
  obtain ⟨fd__law_pick, F__law_pick⟩ := c.d.def_ 1 (d := mkD "_law_pick" 32) rfl
  obtain ⟨fd__law_errors_right, F__law_errors_right⟩ := c.d.def_ 2 (d := mkD "_law_errors_right" 48) rfl
  obtain ⟨fd__law_of, F__law_of⟩ := c.d.def_ 3 (d := mkD "_law_of" 33) rfl
  obtain ⟨fd__law_rooms, F__law_rooms⟩ := c.d.def_ 4 (d := mkD "_law_rooms" 34) rfl
  obtain ⟨fd__law_by, F__law_by⟩ := c.d.def_ 5 (d := mkD "_law_by" 35) rfl
  obtain ⟨fd__law_hall, F__law_hall⟩ := c.d.def_ 6 (d := mkD "_law_hall" 36) rfl
  obtain ⟨fd__law_by_bent, F__law_by_bent⟩ := c.d.def_ 7 (d := mkD "_law_by_bent" 46) rfl
  obtain ⟨fd__law_ways, F__law_ways⟩ := c.d.def_ 8 (d := mkD "_law_ways" 45) rfl
  obtain ⟨fd__law_bent, F__law_bent⟩ := c.d.def_ 9 (d := mkD "_law_bent" 47) rfl
  obtain ⟨fd__law_whole, F__law_whole⟩ := c.d.def_ 10 (d := mkD "_law_whole" 38) rfl
  obtain ⟨fd_are_rising, F_are_rising⟩ := c.d.def_ 11 (d := mkD "are_rising" 15) rfl
  obtain ⟨fd_is_whole, F_is_whole⟩ := c.d.def_ 12 (d := mkD "is_whole" 13) rfl
  obtain ⟨fd_is_below, F_is_below⟩ := c.d.def_ 13 (d := mkD "is_below" 14) rfl
  obtain ⟨fd_are_rising_below, F_are_rising_below⟩ := c.d.def_ 14 (d := mkD "are_rising_below" 16) rfl
  obtain ⟨fd_are_rooms, F_are_rooms⟩ := c.d.def_ 15 (d := mkD "are_rooms" 21) rfl
  obtain ⟨fd_are_pairs, F_are_pairs⟩ := c.d.def_ 16 (d := mkD "are_pairs" 20) rfl
  obtain ⟨fd_are_ranks, F_are_ranks⟩ := c.d.def_ 17 (d := mkD "are_ranks" 22) rfl
  obtain ⟨fd_are_ways, F_are_ways⟩ := c.d.def_ 18 (d := mkD "are_ways" 19) rfl
  obtain ⟨fd_fault_of, F_fault_of⟩ := c.d.def_ 19 (d := mkD "fault_of" 25) rfl
  obtain ⟨fd_Hall___init__, F_Hall___init__⟩ := c.d.def_ 20 (d := mkMt "Hall" "__init__" "Hall.__init__" 29 0) rfl
  obtain ⟨fd__law_built, F__law_built⟩ := c.d.def_ 21 (d := mkD "_law_built" 37) rfl
  obtain ⟨fd__law_refused, F__law_refused⟩ := c.d.def_ 22 (d := mkD "_law_refused" 44) rfl
  obtain ⟨fd__law_are_rising, F__law_are_rising⟩ := c.d.def_ 23 (d := mkD "_law_are_rising" 39) rfl
  obtain ⟨fd__law_are_ways, F__law_are_ways⟩ := c.d.def_ 24 (d := mkD "_law_are_ways" 41) rfl
  obtain ⟨fd__law_are_rooms, F__law_are_rooms⟩ := c.d.def_ 25 (d := mkD "_law_are_rooms" 40) rfl
  obtain ⟨fd__law_is_by, F__law_is_by⟩ := c.d.def_ 26 (d := mkD "_law_is_by" 42) rfl
  obtain ⟨fd__law_due, F__law_due⟩ := c.d.def_ 27 (d := mkD "_law_due" 43) rfl
  obtain ⟨fd_law, F_law⟩ := c.d.def_ 28 (d := mkD "law" 49) rfl
  obtain ⟨fd_NoHall___init__, F_NoHall___init__⟩ := c.d.def_ 29 (d := mkMt "NoHall" "__init__" "NoHall.__init__" 3 0) rfl
  obtain ⟨fd_NoGame___init__, F_NoGame___init__⟩ := c.d.def_ 30 (d := mkMt "NoGame" "__init__" "NoGame.__init__" 4 0) rfl
  obtain ⟨fd_NoText___init__, F_NoText___init__⟩ := c.d.def_ 31 (d := mkMt "NoText" "__init__" "NoText.__init__" 5 0) rfl
  obtain ⟨fd_NoSort___init__, F_NoSort___init__⟩ := c.d.def_ 32 (d := mkMt "NoSort" "__init__" "NoSort.__init__" 6 0) rfl
  obtain ⟨fd_NoName___init__, F_NoName___init__⟩ := c.d.def_ 33 (d := mkMt "NoName" "__init__" "NoName.__init__" 7 0) rfl
  have g : ∀ (i : Nat) (x : Str), fa[i]? = some (.glo x) → mg x = some (.ref (He.ga K x)) := fun i x e => He.glo_ok X G (c.d.fact i e)
  have m : ∀ (i : Nat) (x : Str), fa[i]? = some (.free x) → mg x = none := fun i x e => He.free_ok X G (c.d.fact i e)
  obtain ⟨t_MOST_LETTERS, k_MOST_LETTERS⟩ := He.int_ok X G (c.d.fact 76 (f := .int "MOST_LETTERS" 4) rfl)
  have g_law := g 27 "law" rfl
  cases hfa.symm.trans g_law
  let N : En w K mg := {
    m_ValueError := m 28 "ValueError" rfl,
    m_all := m 29 "all" rfl,
    m_bool := m 30 "bool" rfl,
    m_enumerate := m 31 "enumerate" rfl,
    m_int := m 32 "int" rfl,
    m_isinstance := m 33 "isinstance" rfl,
    m_len := m 34 "len" rfl,
    m_list := m 35 "list" rfl,
    m_max := m 36 "max" rfl,
    m_range := m 37 "range" rfl,
    m_repr := m 38 "repr" rfl,
    m_str := m 39 "str" rfl,
    m_tuple := m 40 "tuple" rfl,
    m_zip := m 41 "zip" rfl,
    fd__law_hand := fd__law_hand,
    F__law_hand := F__law_hand,
    g__law_hand := g 0 "_law_hand" rfl,
    b__law_hand := F__law_hand.bindsN fun _ _ _ _ _ _ us hl => match us, hl with | [_], _ => rfl,
    fd__law_pick := fd__law_pick,
    F__law_pick := F__law_pick,
    g__law_pick := g 1 "_law_pick" rfl,
    b__law_pick := F__law_pick.bindsN fun _ _ _ _ _ _ us hl => match us, hl with | [_, _], _ => rfl,
    fd__law_errors_right := fd__law_errors_right,
    F__law_errors_right := F__law_errors_right,
    g__law_errors_right := g 2 "_law_errors_right" rfl,
    b__law_errors_right := F__law_errors_right.bindsN fun _ _ _ _ _ _ us hl => match us, hl with | [_], _ => rfl,
    fd__law_of := fd__law_of,
    F__law_of := F__law_of,
    g__law_of := g 3 "_law_of" rfl,
    b__law_of := F__law_of.bindsN fun _ _ _ _ _ _ us hl => match us, hl with | [_, _], _ => rfl,
    fd__law_rooms := fd__law_rooms,
    F__law_rooms := F__law_rooms,
    g__law_rooms := g 4 "_law_rooms" rfl,
    b__law_rooms := F__law_rooms.bindsN fun _ _ _ _ _ _ us hl => match us, hl with | [_, _], _ => rfl,
    fd__law_by := fd__law_by,
    F__law_by := F__law_by,
    g__law_by := g 5 "_law_by" rfl,
    b__law_by := F__law_by.bindsN fun _ _ _ _ _ _ us hl => match us, hl with | [_, _, _], _ => rfl,
    fd__law_hall := fd__law_hall,
    F__law_hall := F__law_hall,
    g__law_hall := g 6 "_law_hall" rfl,
    b__law_hall := F__law_hall.bindsN fun _ _ _ _ _ _ us hl => match us, hl with | [_, _, _], _ => rfl,
    fd__law_by_bent := fd__law_by_bent,
    F__law_by_bent := F__law_by_bent,
    g__law_by_bent := g 7 "_law_by_bent" rfl,
    b__law_by_bent := F__law_by_bent.bindsN fun _ _ _ _ _ _ us hl => match us, hl with | [_, _, _, _], _ => rfl,
    fd__law_ways := fd__law_ways,
    F__law_ways := F__law_ways,
    g__law_ways := g 8 "_law_ways" rfl,
    b__law_ways := F__law_ways.bindsN fun _ _ _ _ _ _ us hl => match us, hl with | [_, _, _, _], _ => rfl,
    fd__law_bent := fd__law_bent,
    F__law_bent := F__law_bent,
    g__law_bent := g 9 "_law_bent" rfl,
    b__law_bent := F__law_bent.bindsN fun _ _ _ _ _ _ us hl => match us, hl with | [_, _, _], _ => rfl,
    fd__law_whole := fd__law_whole,
    F__law_whole := F__law_whole,
    g__law_whole := g 10 "_law_whole" rfl,
    b__law_whole := F__law_whole.bindsN fun _ _ _ _ _ _ us hl => match us, hl with | [_, _, _], _ => rfl,
    fd_are_rising := fd_are_rising,
    F_are_rising := F_are_rising,
    g_are_rising := g 11 "are_rising" rfl,
    b_are_rising := F_are_rising.bindsN fun _ _ _ _ _ _ us hl => match us, hl with | [_], _ => rfl,
    fd_is_whole := fd_is_whole,
    F_is_whole := F_is_whole,
    g_is_whole := g 12 "is_whole" rfl,
    b_is_whole := F_is_whole.bindsN fun _ _ _ _ _ _ us hl => match us, hl with | [_], _ => rfl,
    fd_is_below := fd_is_below,
    F_is_below := F_is_below,
    g_is_below := g 13 "is_below" rfl,
    b_is_below := F_is_below.bindsN fun _ _ _ _ _ _ us hl => match us, hl with | [_, _], _ => rfl,
    fd_are_rising_below := fd_are_rising_below,
    F_are_rising_below := F_are_rising_below,
    g_are_rising_below := g 14 "are_rising_below" rfl,
    b_are_rising_below := F_are_rising_below.bindsN fun _ _ _ _ _ _ us hl => match us, hl with | [_, _], _ => rfl,
    fd_are_rooms := fd_are_rooms,
    F_are_rooms := F_are_rooms,
    g_are_rooms := g 15 "are_rooms" rfl,
    b_are_rooms := F_are_rooms.bindsN fun _ _ _ _ _ _ us hl => match us, hl with | [_, _], _ => rfl,
    fd_are_pairs := fd_are_pairs,
    F_are_pairs := F_are_pairs,
    g_are_pairs := g 16 "are_pairs" rfl,
    b_are_pairs := F_are_pairs.bindsN fun _ _ _ _ _ _ us hl => match us, hl with | [_, _], _ => rfl,
    fd_are_ranks := fd_are_ranks,
    F_are_ranks := F_are_ranks,
    g_are_ranks := g 17 "are_ranks" rfl,
    b_are_ranks := F_are_ranks.bindsN fun _ _ _ _ _ _ us hl => match us, hl with | [_, _], _ => rfl,
    fd_are_ways := fd_are_ways,
    F_are_ways := F_are_ways,
    g_are_ways := g 18 "are_ways" rfl,
    b_are_ways := F_are_ways.bindsN fun _ _ _ _ _ _ us hl => match us, hl with | [_, _, _], _ => rfl,
    fd_fault_of := fd_fault_of,
    F_fault_of := F_fault_of,
    g_fault_of := g 19 "fault_of" rfl,
    b_fault_of := F_fault_of.bindsN fun _ _ _ _ _ _ us hl => match us, hl with | [_, _, _, _, _, _], _ => rfl,
    fd_Hall___init__ := fd_Hall___init__,
    F_Hall___init__ := F_Hall___init__,
    b_Hall___init__ := F_Hall___init__.bindsN fun _ _ _ _ _ _ us hl => match us, hl with | [_, _, _, _, _, _, _], _ => rfl,
    fd__law_built := fd__law_built,
    F__law_built := F__law_built,
    g__law_built := g 20 "_law_built" rfl,
    b__law_built := F__law_built.bindsN fun _ _ _ _ _ _ us hl => match us, hl with | [_], _ => rfl,
    fd__law_refused := fd__law_refused,
    F__law_refused := F__law_refused,
    g__law_refused := g 21 "_law_refused" rfl,
    b__law_refused := F__law_refused.bindsN fun _ _ _ _ _ _ us hl => match us, hl with | [_], _ => rfl,
    fd__law_are_rising := fd__law_are_rising,
    F__law_are_rising := F__law_are_rising,
    g__law_are_rising := g 22 "_law_are_rising" rfl,
    b__law_are_rising := F__law_are_rising.bindsN fun _ _ _ _ _ _ us hl => match us, hl with | [_], _ => rfl,
    fd__law_are_ways := fd__law_are_ways,
    F__law_are_ways := F__law_are_ways,
    g__law_are_ways := g 23 "_law_are_ways" rfl,
    b__law_are_ways := F__law_are_ways.bindsN fun _ _ _ _ _ _ us hl => match us, hl with | [_, _, _], _ => rfl,
    fd__law_are_rooms := fd__law_are_rooms,
    F__law_are_rooms := F__law_are_rooms,
    g__law_are_rooms := g 24 "_law_are_rooms" rfl,
    b__law_are_rooms := F__law_are_rooms.bindsN fun _ _ _ _ _ _ us hl => match us, hl with | [_, _], _ => rfl,
    fd__law_is_by := fd__law_is_by,
    F__law_is_by := F__law_is_by,
    g__law_is_by := g 25 "_law_is_by" rfl,
    b__law_is_by := F__law_is_by.bindsN fun _ _ _ _ _ _ us hl => match us, hl with | [_, _, _], _ => rfl,
    fd__law_due := fd__law_due,
    F__law_due := F__law_due,
    g__law_due := g 26 "_law_due" rfl,
    b__law_due := F__law_due.bindsN fun _ _ _ _ _ _ us hl => match us, hl with | [_], _ => rfl,
    fd_law := fd_law,
    F_law := F_law,
    g_law := g 27 "law" rfl,
    b_law := F_law.bindsN fun _ _ _ _ _ _ us hl => match us, hl with | [_], _ => rfl,
    fd_NoHall___init__ := fd_NoHall___init__,
    F_NoHall___init__ := F_NoHall___init__,
    b_NoHall___init__ := F_NoHall___init__.bindsN fun _ _ _ _ _ _ us hl => match us, hl with | [_, _], _ => rfl,
    fd_NoGame___init__ := fd_NoGame___init__,
    F_NoGame___init__ := F_NoGame___init__,
    b_NoGame___init__ := F_NoGame___init__.bindsN fun _ _ _ _ _ _ us hl => match us, hl with | [_, _], _ => rfl,
    fd_NoText___init__ := fd_NoText___init__,
    F_NoText___init__ := F_NoText___init__,
    b_NoText___init__ := F_NoText___init__.bindsN fun _ _ _ _ _ _ us hl => match us, hl with | [_, _], _ => rfl,
    fd_NoSort___init__ := fd_NoSort___init__,
    F_NoSort___init__ := F_NoSort___init__,
    b_NoSort___init__ := F_NoSort___init__.bindsN fun _ _ _ _ _ _ us hl => match us, hl with | [_, _], _ => rfl,
    fd_NoName___init__ := fd_NoName___init__,
    F_NoName___init__ := F_NoName___init__,
    b_NoName___init__ := F_NoName___init__.bindsN fun _ _ _ _ _ _ us hl => match us, hl with | [_, _], _ => rfl,
    cl_Hall := He.cls_ok (c.d.fact 66 (f := .cls "Hall") rfl),
    mk_Hall := He.mkr_ok (c.d.fact 67 (f := .mkr "Hall") rfl),
    g_Hall := g 65 "Hall" rfl,
    xi_NoHall := excI_ok (c0.1.x 0 rfl),
    kit_NoHall_NoHall := kit_ok (c0.1.x 1 rfl),
    kit_NoHall_NoGame := kit_ok (c0.1.x 2 rfl),
    kit_NoHall_NoText := kit_ok (c0.1.x 3 rfl),
    kit_NoHall_NoSort := kit_ok (c0.1.x 4 rfl),
    kit_NoHall_NoName := kit_ok (c0.1.x 5 rfl),
    kit_NoHall_Unlike := kit_ok (c0.1.x 6 rfl),
    kit_NoHall_TooMany := kit_ok (c0.1.x 7 rfl),
    kit_NoHall_NotCertain := kit_ok (c0.1.x 8 rfl),
    kit_NoHall_NoLine := kit_ok (c0.1.x 9 rfl),
    kit_NoHall_HallError := kit_ok (c0.1.x 10 rfl),
    kit_NoHall_ValueError := kitT_ok (c0.1.x 11 rfl),
    kitA_NoHall_0 := kitA_ok (c0.1.x 12 rfl),
    xi_NoGame := excI_ok (c0.1.x 13 rfl),
    kit_NoGame_NoHall := kit_ok (c0.1.x 14 rfl),
    kit_NoGame_NoGame := kit_ok (c0.1.x 15 rfl),
    kit_NoGame_NoText := kit_ok (c0.1.x 16 rfl),
    kit_NoGame_NoSort := kit_ok (c0.1.x 17 rfl),
    kit_NoGame_NoName := kit_ok (c0.1.x 18 rfl),
    kit_NoGame_Unlike := kit_ok (c0.1.x 19 rfl),
    kit_NoGame_TooMany := kit_ok (c0.1.x 20 rfl),
    kit_NoGame_NotCertain := kit_ok (c0.1.x 21 rfl),
    kit_NoGame_NoLine := kit_ok (c0.1.x 22 rfl),
    kit_NoGame_HallError := kit_ok (c0.1.x 23 rfl),
    kit_NoGame_ValueError := kitT_ok (c0.1.x 24 rfl),
    kitA_NoGame_0 := kitA_ok (c0.1.x 25 rfl),
    xi_NoText := excI_ok (c0.1.x 26 rfl),
    kit_NoText_NoHall := kit_ok (c0.1.x 27 rfl),
    kit_NoText_NoGame := kit_ok (c0.1.x 28 rfl),
    kit_NoText_NoText := kit_ok (c0.1.x 29 rfl),
    kit_NoText_NoSort := kit_ok (c0.1.x 30 rfl),
    kit_NoText_NoName := kit_ok (c0.1.x 31 rfl),
    kit_NoText_Unlike := kit_ok (c0.1.x 32 rfl),
    kit_NoText_TooMany := kit_ok (c0.1.x 33 rfl),
    kit_NoText_NotCertain := kit_ok (c0.1.x 34 rfl),
    kit_NoText_NoLine := kit_ok (c0.1.x 35 rfl),
    kit_NoText_HallError := kit_ok (c0.1.x 36 rfl),
    kit_NoText_ValueError := kitT_ok (c0.1.x 37 rfl),
    kitA_NoText_0 := kitA_ok (c0.1.x 38 rfl),
    xi_NoSort := excI_ok (c0.1.x 39 rfl),
    kit_NoSort_NoHall := kit_ok (c0.1.x 40 rfl),
    kit_NoSort_NoGame := kit_ok (c0.1.x 41 rfl),
    kit_NoSort_NoText := kit_ok (c0.1.x 42 rfl),
    kit_NoSort_NoSort := kit_ok (c0.1.x 43 rfl),
    kit_NoSort_NoName := kit_ok (c0.1.x 44 rfl),
    kit_NoSort_Unlike := kit_ok (c0.1.x 45 rfl),
    kit_NoSort_TooMany := kit_ok (c0.1.x 46 rfl),
    kit_NoSort_NotCertain := kit_ok (c0.1.x 47 rfl),
    kit_NoSort_NoLine := kit_ok (c0.1.x 48 rfl),
    kit_NoSort_HallError := kit_ok (c0.1.x 49 rfl),
    kit_NoSort_ValueError := kitT_ok (c0.1.x 50 rfl),
    kitA_NoSort_0 := kitA_ok (c0.1.x 51 rfl),
    xi_NoName := excI_ok (c0.1.x 52 rfl),
    kit_NoName_NoHall := kit_ok (c0.1.x 53 rfl),
    kit_NoName_NoGame := kit_ok (c0.1.x 54 rfl),
    kit_NoName_NoText := kit_ok (c0.1.x 55 rfl),
    kit_NoName_NoSort := kit_ok (c0.1.x 56 rfl),
    kit_NoName_NoName := kit_ok (c0.1.x 57 rfl),
    kit_NoName_Unlike := kit_ok (c0.1.x 58 rfl),
    kit_NoName_TooMany := kit_ok (c0.1.x 59 rfl),
    kit_NoName_NotCertain := kit_ok (c0.1.x 60 rfl),
    kit_NoName_NoLine := kit_ok (c0.1.x 61 rfl),
    kit_NoName_HallError := kit_ok (c0.1.x 62 rfl),
    kit_NoName_ValueError := kitT_ok (c0.1.x 63 rfl),
    kitA_NoName_0 := kitA_ok (c0.1.x 64 rfl),
    xi_Unlike := excI_ok (c0.1.x 65 rfl),
    kit_Unlike_NoHall := kit_ok (c0.1.x 66 rfl),
    kit_Unlike_NoGame := kit_ok (c0.1.x 67 rfl),
    kit_Unlike_NoText := kit_ok (c0.1.x 68 rfl),
    kit_Unlike_NoSort := kit_ok (c0.1.x 69 rfl),
    kit_Unlike_NoName := kit_ok (c0.1.x 70 rfl),
    kit_Unlike_Unlike := kit_ok (c0.1.x 71 rfl),
    kit_Unlike_TooMany := kit_ok (c0.1.x 72 rfl),
    kit_Unlike_NotCertain := kit_ok (c0.1.x 73 rfl),
    kit_Unlike_NoLine := kit_ok (c0.1.x 74 rfl),
    kit_Unlike_HallError := kit_ok (c0.1.x 75 rfl),
    kit_Unlike_ValueError := kitT_ok (c0.1.x 76 rfl),
    kitA_Unlike_0 := kitA_ok (c0.1.x 77 rfl),
    xi_TooMany := excI_ok (c0.1.x 78 rfl),
    kit_TooMany_NoHall := kit_ok (c0.1.x 79 rfl),
    kit_TooMany_NoGame := kit_ok (c0.1.x 80 rfl),
    kit_TooMany_NoText := kit_ok (c0.1.x 81 rfl),
    kit_TooMany_NoSort := kit_ok (c0.1.x 82 rfl),
    kit_TooMany_NoName := kit_ok (c0.1.x 83 rfl),
    kit_TooMany_Unlike := kit_ok (c0.1.x 84 rfl),
    kit_TooMany_TooMany := kit_ok (c0.1.x 85 rfl),
    kit_TooMany_NotCertain := kit_ok (c0.1.x 86 rfl),
    kit_TooMany_NoLine := kit_ok (c0.1.x 87 rfl),
    kit_TooMany_HallError := kit_ok (c0.1.x 88 rfl),
    kit_TooMany_ValueError := kitT_ok (c0.1.x 89 rfl),
    kitA_TooMany_0 := kitA_ok (c0.1.x 90 rfl),
    xi_NotCertain := excI_ok (c0.1.x 91 rfl),
    kit_NotCertain_NoHall := kit_ok (c0.1.x 92 rfl),
    kit_NotCertain_NoGame := kit_ok (c0.1.x 93 rfl),
    kit_NotCertain_NoText := kit_ok (c0.1.x 94 rfl),
    kit_NotCertain_NoSort := kit_ok (c0.1.x 95 rfl),
    kit_NotCertain_NoName := kit_ok (c0.1.x 96 rfl),
    kit_NotCertain_Unlike := kit_ok (c0.1.x 97 rfl),
    kit_NotCertain_TooMany := kit_ok (c0.1.x 98 rfl),
    kit_NotCertain_NotCertain := kit_ok (c0.1.x 99 rfl),
    kit_NotCertain_NoLine := kit_ok (c0.1.x 100 rfl),
    kit_NotCertain_HallError := kit_ok (c0.1.x 101 rfl),
    kit_NotCertain_ValueError := kitT_ok (c0.1.x 102 rfl),
    kitA_NotCertain_0 := kitA_ok (c0.1.x 103 rfl),
    xi_NoLine := excI_ok (c0.1.x 104 rfl),
    kit_NoLine_NoHall := kit_ok (c0.1.x 105 rfl),
    kit_NoLine_NoGame := kit_ok (c0.1.x 106 rfl),
    kit_NoLine_NoText := kit_ok (c0.1.x 107 rfl),
    kit_NoLine_NoSort := kit_ok (c0.1.x 108 rfl),
    kit_NoLine_NoName := kit_ok (c0.1.x 109 rfl),
    kit_NoLine_Unlike := kit_ok (c0.1.x 110 rfl),
    kit_NoLine_TooMany := kit_ok (c0.1.x 111 rfl),
    kit_NoLine_NotCertain := kit_ok (c0.1.x 112 rfl),
    kit_NoLine_NoLine := kit_ok (c0.1.x 113 rfl),
    kit_NoLine_HallError := kit_ok (c0.1.x 114 rfl),
    kit_NoLine_ValueError := kitT_ok (c0.1.x 115 rfl),
    kitA_NoLine_0 := kitA_ok (c0.1.x 116 rfl),
    oe_NoHall := oex_ok (c0.1.x 117 rfl),
    ei_NoHall := exi_ok (c0.1.x 118 rfl),
    no_NoHall := noa_ok (c0.1.x 119 rfl),
    oe_NoGame := oex_ok (c0.1.x 120 rfl),
    ei_NoGame := exi_ok (c0.1.x 121 rfl),
    no_NoGame := noa_ok (c0.1.x 122 rfl),
    oe_NoText := oex_ok (c0.1.x 123 rfl),
    ei_NoText := exi_ok (c0.1.x 124 rfl),
    no_NoText := noa_ok (c0.1.x 125 rfl),
    oe_NoSort := oex_ok (c0.1.x 126 rfl),
    ei_NoSort := exi_ok (c0.1.x 127 rfl),
    no_NoSort := noa_ok (c0.1.x 128 rfl),
    oe_NoName := oex_ok (c0.1.x 129 rfl),
    ei_NoName := exi_ok (c0.1.x 130 rfl),
    no_NoName := noa_ok (c0.1.x 131 rfl),
    eb_HallError := ebs_ok (c0.1.x 132 rfl),
    g_Unlike := g 42 "Unlike" rfl,
    g_TooMany := g 43 "TooMany" rfl,
    g_NotCertain := g 44 "NotCertain" rfl,
    g_NoLine := g 45 "NoLine" rfl,
    g_NoHall := g 46 "NoHall" rfl,
    g_NoGame := g 47 "NoGame" rfl,
    g_NoText := g 48 "NoText" rfl,
    g_NoSort := g 49 "NoSort" rfl,
    g_NoName := g 50 "NoName" rfl,
    g_HallError := g 51 "HallError" rfl,
    x_Unlike := xc_ok (c.d.fact 52 (f := .exc "Unlike") rfl),
    x_TooMany := xc_ok (c.d.fact 53 (f := .exc "TooMany") rfl),
    x_NotCertain := xc_ok (c.d.fact 54 (f := .exc "NotCertain") rfl),
    x_NoLine := xc_ok (c.d.fact 55 (f := .exc "NoLine") rfl),
    xm_NoHall_HallError := He.exm_ok (c.d.fact 56 (f := .exm "NoHall" "HallError" true) rfl),
    xm_NoGame_HallError := He.exm_ok (c.d.fact 57 (f := .exm "NoGame" "HallError" true) rfl),
    xm_NoText_HallError := He.exm_ok (c.d.fact 58 (f := .exm "NoText" "HallError" true) rfl),
    xm_NoSort_HallError := He.exm_ok (c.d.fact 59 (f := .exm "NoSort" "HallError" true) rfl),
    xm_NoName_HallError := He.exm_ok (c.d.fact 60 (f := .exm "NoName" "HallError" true) rfl),
    xm_Unlike_HallError := He.exm_ok (c.d.fact 61 (f := .exm "Unlike" "HallError" true) rfl),
    xm_TooMany_HallError := He.exm_ok (c.d.fact 62 (f := .exm "TooMany" "HallError" true) rfl),
    xm_NotCertain_HallError := He.exm_ok (c.d.fact 63 (f := .exm "NotCertain" "HallError" true) rfl),
    xm_NoLine_HallError := He.exm_ok (c.d.fact 64 (f := .exm "NoLine" "HallError" true) rfl),
    sysd := c0.2,
    hf_letters := (allC ⟨He.cls_ok (c.d.fact 66 (f := .cls "Hall") rfl), He.noat_ok (c.d.fact 68 (f := .noat "Hall" "letters") rfl)⟩ allN),
    hf_rooms := (allC ⟨He.cls_ok (c.d.fact 66 (f := .cls "Hall") rfl), He.noat_ok (c.d.fact 69 (f := .noat "Hall" "rooms") rfl)⟩ allN),
    hf_start := (allC ⟨He.cls_ok (c.d.fact 66 (f := .cls "Hall") rfl), He.noat_ok (c.d.fact 70 (f := .noat "Hall" "start") rfl)⟩ allN),
    hf_ways := (allC ⟨He.cls_ok (c.d.fact 66 (f := .cls "Hall") rfl), He.noat_ok (c.d.fact 71 (f := .noat "Hall" "ways") rfl)⟩ allN),
    hf_kind := (allC ⟨He.cls_ok (c.d.fact 66 (f := .cls "Hall") rfl), He.noat_ok (c.d.fact 72 (f := .noat "Hall" "kind") rfl)⟩ allN),
    hf_by := (allC ⟨He.cls_ok (c.d.fact 66 (f := .cls "Hall") rfl), He.noat_ok (c.d.fact 73 (f := .noat "Hall" "by") rfl)⟩ allN),
    hf_goals := (allC ⟨He.cls_ok (c.d.fact 66 (f := .cls "Hall") rfl), He.noat_ok (c.d.fact 74 (f := .noat "Hall" "goals") rfl)⟩ allN),
    g_KINDS := g 75 "KINDS" rfl,
    T_KINDS := tabF (c.keys 0 rfl) (c.val 0 rfl) (allC rfl (allC rfl (allC rfl (allC rfl allN)))),
    t_MOST_LETTERS := t_MOST_LETTERS,
    k_MOST_LETTERS := k_MOST_LETTERS }
  have b_law := FunD.bindsA (ps := ["_law_script"]) F_law fun _ _ _ _ _ _ us hl => match us, hl with | [_], _ => rfl
  exact ⟨fd_law, fun s v => b_law s [v] rfl, fun base _ _ => w_law N⟩
end EK
open PySem PySem.W PySem.Calls PyProof.Rows
set_option maxHeartbeats 0 in
theorem PySem.Challenge.cw_endlesshall_k09_the_first_fault_of_sever_holds : PySem.Challenge.rw_endlesshall_k09_the_first_fault_of_sever.Holds := by
  w_on; o_law
  refine HandSHeadRun.head_any (r := EK.HD.Rw) (q := view EK.HD.Rw.prog [49]) (H := EK.HD.hk) (ob := EK.HD.ob) (M := 6000) (loose := EK.HD.names) (d := HandSHeadRun.topDef EK.HD.Rw.prog 49) (kwd := []) EK.HD.ob_eq
    (by kernel_rfl) (fun s => by kernel_rfl) EK.HD.run (by kernel_rfl) (by kernel_rfl) (by kernel_rfl) (by rfl) (by first | assumption | decide +kernel) (by decide +kernel) ⟨rfl, rfl, rfl, rfl, rfl, by decide +kernel⟩ ?hw ?hc
  case hw => w_witness2
  case hc =>
    refine EL.walkG (l := PySem.Challenge.rw_endlesshall_k09_the_first_fault_of_sever) (n := 63) (k := 11) (x := "_law_script") rfl (by decide) (by kernel_rfl) ⟨rfl, by decide, by decide⟩ ?F
    intro w mg fa h Y G hmg0
    obtain ⟨K, KX, c⟩ := Y
    have hmg : mg ("law" : PySem.Str) = some (.ref fa) := by
      have e : (HandSHeadRun.topDef EK.HD.Rw.prog 49).name = ("law" : PySem.Str) := by kernel_rfl
      rw [← e]
      exact hmg0
    obtain ⟨fd, hb, hF⟩ := EK.facts (P := (PySem.Challenge.rw_endlesshall_k09_the_first_fault_of_sever).prog) (w := w) KX G hmg c
    exact ⟨K, fd, _, KX, hb, fun H a ns hl _ hS => UX.sp_law EK.law_ok hl hS, hF⟩
