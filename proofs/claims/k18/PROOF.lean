import PyProof.Rows.All
import Wide.All
import OpenK.AllK
import Wide.FinOn
import KE.KDictKeyed
import KE.KDictWalk
import HandS.ForMost
import HandS.Evl
import HandS.HeadHook2
import HandS.HeadHook4
import HandS.Lambda
import HandS.ExcInit
import HandS.ExcValue
import HandS.ExcCtx
import HandS.HotCalls
import HandS.TryOnly
import HandS.Defaults
import HandS.CallSlots
import HandS.Star
import HandS.Strs
import KE.GoesMore
import PyProof.EnumMake
import HandS.TupAny
import HandS.IsInst
import HandS.Style
import HandS.Deep
import HandS.Text
import HandS.Conv
import HandS.TupLe
import HandS.Codes
import KE.KStateDown
import HandS.Head0
import HandS.HeadEnd
import HandS.TupMul
import HandS.OwnEq
import OpenK.KMeth
import OpenK.KOps
import HandS.NamedTupSort
import PyProof.InstEq
import PyProof.ReprRoads
import PyProof.ReprLen
import PyProof.ReprBulk
import HandS.Zip
import HandS.Flow
import PyProof.StrLawsIn
import PyProof.ListTruth
import HandS.FStr
import HandS.ClsMeth
import KE.KCallOwn
import HandS.ExcInitHot
import HandS.ExcField
import HandS.ExcIs
import HandS.TryMany
import KE.KExcInit
import PyProof.ExcBaseAll.LookupError
import PyProof.ExcBaseAll.ArithmeticError
import KE.KExcIs
import KE.KTryMore
import HandS.SetFor
import HandS.Dict
import PyProof.TupleOfStr
import KE.GoesZip
import HandS.Replace
import PyProof.StrLawsFirst
import KE.DataMinMax
import KE.SortData
import HandS.Iter
import HandS.DictComp
import HandS.RevRange
import KE.DataCmp
import HandS.ReplaceLit
import HandS.ReplaceList
import PyProof.LongRange
import PyProof.ListIndex
import PyProof.ListIndexNeg
import HandS.Nested
import HandS.SortInts
import KE.KDictCopyH
import HandS.Words
import HandS.Head1
import HandS.Head2
import PySem.Challenge.RW_nearundone_k18_errors_and_limits
set_option Elab.async false
set_option linter.all false
set_option maxRecDepth 100000
set_option maxHeartbeats 0
namespace Nu
open PySem PySem.Spec PyProof.Rows L2
variable {K : PySem.W.Frag}
def lamNames : List Str := (["_law_right", "law", "_law_refused", "_law_sums_right", "_law_passes_right", "_law_made_right", "_law_refused_right", "_law_asked_right", "_law_odd_right", "_law_step_right", "_law_all_right", "_law_guarded_right", "_law_full_right", "_law_alike_right", "_law_lossless_right", "_law_delay_right", "_law_told_right", "_law_papers_right"] : List Str) ++ (["open_views", "delay_of", "places_alike", "shows_alike", "shows_lossless", "shows_delay", "shows_reach", "shows_bans", "spread_before", "_law_exchanged", "_law_all", "_law_undone", "_law_delay", "_law_before", "_law_reaching", "_law_watcher", "_law_moved", "_law_no_delay", "_law_numbers_lack"] : List Str)
def isFnc (K : PySem.W.Frag) (x : Str) : Bool := match K.lookup (He.fAd K (x, none)) with
  | some ⟨_, _, .func _, _⟩ => true
  | _ => false
def lamDefs (K : PySem.W.Frag) : List He.Defn := (lamNames.filter (isFnc K)).map fun x => (x, none)
def cmA (K : PySem.W.Frag) (c m : Str) : Addr := match PySem.W.recIn K (He.ma K (He.ga K c) m) "classmethod" with
  | some (.ref g :: _) => g
  | _ => 0
def cmD (K : PySem.W.Frag) (d : He.DefD) : Addr := cmA K d.at_.1 (d.at_.2.getD Str.empty)
def fnC (K : PySem.W.Frag) (d : He.DefD) : He.FnW := match K.lookup (cmD K d) with
  | some ⟨_, _, .func fd, _⟩ => some (fd.name, fd.qualname, fd.params, fd.body, fd.scope, fd.globals, fd.closure, fd.builtins)
  | _ => none
def okC (K : PySem.W.Frag) (d : He.DefD) : Bool := PySem.W.keepIn K (.ref (cmD K d)) && (match K.lookup (cmD K d) with
  | some ⟨_, _, .func fd, _⟩ => PySem.W.codeIn K fd.code d.qual && (He.dflB K fd.defaults (d.dvs K) && He.kwdB K fd.kwdefaults (d.kws K))
  | _ => false)
structure Hk where
  n : Nat
  fs : List (PySem.W.Frag → Bool)
  fn : List He.DefD
  cm : List He.DefD := []
def Hk.obs (h : Hk) (K : PySem.W.Frag) : He.AlD := ((h.fs.all fun f => f K) && ((h.fn.all fun d => d.ok K) && h.cm.all fun d => okC K d), (h.fn.map fun d => He.fnW K d.at_) ++ h.cm.map fun d => fnC K d)
def Hk.val (h : Hk) : He.AlD := (true, h.fn.map He.DefD.val ++ h.cm.map He.DefD.val)
def Hk.Says (h : Hk) (K : PySem.W.Frag) : Prop := h.obs K = h.val
def bsAdd {α : Type} (k : Nat → List Addr → α) : List Addr → Nat → List Addr → α
  | [], seen, fr => k seen fr
  | a :: r, seen, fr => match Nat.testBit seen a with
    | true => bsAdd k r seen fr
    | false => HandSHeadRun.frNat (Nat.lor seen (Nat.shiftLeft 1 a)) fun s => bsAdd k r s (a :: fr)
def lvB (g : Addr → Option Obj) : Nat → List Addr → Nat → List Addr → List Addr
  | 0, fr, _, acc => acc ++ fr
  | n + 1, fr, seen, acc => bsAdd (fun seen' fr' => lvB g n fr' seen' (acc ++ fr)) (fr.flatMap fun a => match g a with
    | some o => He.refsD o
    | none => []) seen []
def adB (g : Addr → Option Obj) (n : Nat) : List Addr := lvB g n [mainGlobals] (Nat.shiftLeft 1 mainGlobals) []
def Hk.as (h : Hk) (g : Addr → Option Obj) : List Addr := match h.cm with
  | [] => adB g h.n
  | _ => adB g h.n ++ [cStatics]
def tabsOk (g : Addr → Option Obj) (K : PySem.W.Frag) : Bool := He.tabsB g (lamDefs K) K && decide (((lamDefs K).map fun p => (He.cT K p).2).Nodup)
def Hk.both (h : Hk) (g : Addr → Option Obj) (K : PySem.W.Frag) : He.AlD := ((h.obs K).1 && tabsOk g K, (h.obs K).2)
def Hk.obsG (h : Hk) (g : Addr → Option Obj) : He.AlD := h.both g (He.frT g (h.as g))
structure TabO (K : PySem.W.Frag) (h : Heap) : Prop where
  hd : ∀ p ∈ lamDefs K, PySem.W.codeHdIn K (He.cT K p).1 (He.cT K p).2 = true
  out : ∀ p ∈ lamDefs K, K.lookup (He.cT K p).2 = none
  nil : ∀ p ∈ lamDefs K, h.get? (He.cT K p).2 = some { cls := .none, data := .fields #[] }
  ap : ((lamDefs K).map fun p => (He.cT K p).2).Nodup
theorem tabO_of {h : Heap} {as : List Addr} (e : tabsOk h.get? (He.frT h.get? as) = true) : TabO (He.frT h.get? as) h := by
  obtain ⟨e1, e2⟩ := He.ba e
  have each : ∀ p ∈ lamDefs (He.frT h.get? as), ∃ o, PySem.W.codeHdIn (He.frT h.get? as) (He.cT (He.frT h.get? as) p).1 (He.cT (He.frT h.get? as) p).2 = true ∧ h.get? (He.cT (He.frT h.get? as) p).2 = some o ∧ He.emptyTab o = true := by
    intro p hp
    obtain ⟨f1, f2⟩ := He.ba (List.all_eq_true.mp e1 p hp)
    cases q : h.get? (He.cT (He.frT h.get? as) p).2 with
    | none => rw [q] at f2; cases f2
    | some o => rw [q] at f2; exact ⟨o, f1, rfl, f2⟩
  refine ⟨fun p hp => ?_, fun p hp => ?_, fun p hp => ?_, of_decide_eq_true e2⟩
  · obtain ⟨o, f1, _, _⟩ := each p hp; exact f1
  · obtain ⟨o, _, f2, f3⟩ := each p hp; exact He.frT_none f2 f3
  · obtain ⟨o, _, f2, f3⟩ := each p hp; rw [f2, He.emptyTab_eq f3]
theorem Hk.both_ok {h : Hk} {g : Addr → Option Obj} (e : h.both g K = h.val) : h.Says K ∧ tabsOk g K = true := by
  have e1 : ((h.obs K).1 && tabsOk g K) = true := congrArg (fun z : He.AlD => z.1) e
  have e2 : (h.both g K).2 = h.val.2 := by rw [e]
  obtain ⟨f1, f2⟩ := He.ba e1
  exact ⟨Prod.ext f1 e2, f2⟩
def Hk.hook (h : Hk) : PySem.W.Hook where
  α := He.AlD
  obs := fun s => h.obsG s.heap.get?
  val := fun _ => h.val
  says := fun _ hp => ∃ K : PySem.W.Frag, K.In hp ∧ h.Says K ∧ TabO K hp
  of := fun _ _ e => ⟨_, He.frT_in, (Hk.both_ok e).1, tabO_of (Hk.both_ok e).2⟩
  keeps := fun _ _ _ ⟨K, hK, c, o⟩ k => ⟨K, PySem.W.Frag.In.keeps hK k, c, o.hd, o.out, fun p hp => k _ _ (o.nil p hp), o.ap⟩
theorem Hk.obsG_eq {h : Hk} {g : Addr → Option Obj} {s : Shared} (e : ∀ a, g a = s.heap.get? a) : h.obsG g = h.hook.obs s := by
  have e : g = s.heap.get? := funext e
  rw [e] <;> rfl
def bltTys : List String := ["NoneType", "bool", "int", "str", "tuple", "list", "dict"]
def clsB : Stmt → List Stmt
  | .ClassDef (body := b) .. => b
  | _ => []
abbrev tailOf (b : String) : List Value := [.type b, .type "Exception", .type "BaseException", .type "object"]
def upTo (tl : List Value) : List Value → Bool
  | .ref _ :: r => upTo tl r
  | l => l == tl
def oexB (K : PySem.W.Frag) (c : Addr) : Bool := match K.lookup c with
  | some ⟨.type "type", _, .cls cd, sl⟩ => (match cd.mro, sl.toList with
    | .ref c' :: bm, [_, _, _, _, some (.builtin n), _] => decide (c' = c) && (!cd.hasDel && (cd.hasDict && ((decide (n = "ValueError.__new__") && upTo (tailOf "ValueError") bm) || ((decide (n = "LookupError.__new__") && upTo (tailOf "LookupError") bm) || (decide (n = "ArithmeticError.__new__") && upTo (tailOf "ArithmeticError") bm)))))
    | _, _ => false)
  | _ => false
def fExM (c : Str) (K : PySem.W.Frag) : Bool := oexB K (He.ga K c) && (He.eqO (PySem.W.findIn K (.ref (He.ga K c)) "__setattr__") (some (some (.builtin "object.__setattr__"))) && (decide (PySem.W.subIn K (.ref (He.ga K c)) (.type "BaseException") = some true) && (decide (PySem.W.typeIn K (.ref (He.ga K c)) = some (.type "type")) &&
  (PySem.W.keepIn K (.ref (He.ga K c)) && (He.eqO (PySem.W.findIn K (.ref (He.ga K c)) "__init__") (some (some (.ref (He.ma K (He.ga K c) "__init__")))) && decide (PySem.W.typeIn K (.ref (He.ma K (He.ga K c) "__init__")) = some (.type "function")))))))
def fExIs (c : Str) (K : PySem.W.Frag) : Bool := (PySem.W.clsIn K (He.ga K c)).isSome && (He.eqO (PySem.W.findIn K (.ref (He.ga K c)) "__getattribute__") (some (some (.builtin "BaseException.__getattribute__"))) && (He.eqO (PySem.W.findIn K (.ref (He.ga K c)) "__getattr__") (some none) &&
  (decide (PySem.W.subIn K (.ref (He.ga K c)) (.type "BaseException") = some true) && (PySem.W.hasDictIn K (He.ga K c) && (He.eqO (PySem.W.findIn K (.ref (He.ga K c)) "__class__") (some (some (.builtin "object.__class__"))) &&
  (He.eqO (PySem.W.specialIn K (.builtin "object.__class__") "__get__") (some (some (.builtin "getset_descriptor.__get__"))) && (decide (PySem.W.takesIn K (.builtin "object.__class__") = some true) && decide (PySem.W.mroIn K (He.ga K c) (.type "object") = some true))))))))
inductive Tc where
  | own (c : Str) | blt (n : String)
def Tc.v (K : PySem.W.Frag) : Tc → Value
  | .own c => .ref (He.ga K c)
  | .blt n => .type n
def Tc.w (K : PySem.W.Frag) : Tc → V
  | .own c => .ref (He.ga K c)
  | .blt n => .ty n
def fE0M (c : Str) (K : PySem.W.Frag) : Bool := PySem.W.excIn K (He.ga K c) (tailOf "LookupError") "LookupError.__new__" && PySem.W.keepIn K (.ref (He.ga K c))
def fXis (cs : List Str) (K : PySem.W.Frag) : Bool := cs.all fun c => fExIs c K
def fKt (cs sup : List Str) (t : Tc) (K : PySem.W.Frag) : Bool := cs.all fun c => decide (PySem.W.kitOne K (.ref (He.ga K c)) (t.v K) = some (decide (c ∈ sup)))
def fNoF (cs : List Str) (f : Str) (K : PySem.W.Frag) : Bool := cs.all fun c => He.eqO (PySem.W.findIn K (.ref (He.ga K c)) f) (some none)
end Nu
namespace Law
open PySem PySem.Spec PyProof.Rows L2 Nu
abbrev cs_isi : List Str := []
abbrev cs_err : List Str := ["InvalidSigns", "InvalidRow", "InvalidNumber", "InvalidRules", "InvalidEdge", "InvalidPasses", "InvalidWords", "InvalidText", "InvalidGuards", "InvalidDeed", "InvalidLine", "NotAPass", "NotAChain", "NotBans", "OtherSigns", "Lossy", "NoWalk", "Ended", "NothingToUndo", "Busy", "Refused", "TooMany", "TooWide"]
abbrev sup_ArithmeticError : List Str := ["TooMany", "TooWide"]
abbrev sup_Busy : List Str := ["Busy"]
abbrev sup_Ended : List Str := ["Ended"]
abbrev sup_InvalidDeed : List Str := ["InvalidDeed"]
abbrev sup_InvalidEdge : List Str := ["InvalidEdge"]
abbrev sup_InvalidGuards : List Str := ["InvalidGuards"]
abbrev sup_InvalidLine : List Str := ["InvalidLine"]
abbrev sup_InvalidNumber : List Str := ["InvalidNumber"]
abbrev sup_InvalidPasses : List Str := ["InvalidPasses"]
abbrev sup_InvalidRow : List Str := ["InvalidRow"]
abbrev sup_InvalidRules : List Str := ["InvalidRules"]
abbrev sup_InvalidSigns : List Str := ["InvalidSigns"]
abbrev sup_InvalidText : List Str := ["InvalidText"]
abbrev sup_InvalidWords : List Str := ["InvalidWords"]
abbrev sup_LookupError : List Str := ["OtherSigns", "Lossy", "NoWalk", "Ended", "NothingToUndo", "Busy", "Refused"]
abbrev sup_Lossy : List Str := ["Lossy"]
abbrev sup_NoWalk : List Str := ["NoWalk"]
abbrev sup_NotAChain : List Str := ["NotAChain"]
abbrev sup_NotAPass : List Str := ["NotAPass"]
abbrev sup_NotBans : List Str := ["NotBans"]
abbrev sup_NothingToUndo : List Str := ["NothingToUndo"]
abbrev sup_OtherSigns : List Str := ["OtherSigns"]
abbrev sup_QuestionError : List Str := ["OtherSigns", "Lossy", "NoWalk", "Ended", "NothingToUndo", "Busy", "Refused"]
abbrev sup_Refused : List Str := ["Refused"]
abbrev sup_ShapeError : List Str := ["InvalidSigns", "InvalidRow", "InvalidNumber", "InvalidRules", "InvalidEdge", "InvalidPasses", "InvalidWords", "InvalidText", "InvalidGuards", "InvalidDeed", "InvalidLine", "NotAPass", "NotAChain", "NotBans"]
abbrev sup_SizeError : List Str := ["TooMany", "TooWide"]
abbrev sup_TooMany : List Str := ["TooMany"]
abbrev sup_TooWide : List Str := ["TooWide"]
abbrev sup_ValueError : List Str := ["InvalidSigns", "InvalidRow", "InvalidNumber", "InvalidRules", "InvalidEdge", "InvalidPasses", "InvalidWords", "InvalidText", "InvalidGuards", "InvalidDeed", "InvalidLine", "NotAPass", "NotAChain", "NotBans"]
abbrev cs_fe_deed : List Str := ["Refused"]
abbrev cs_fe_given : List Str := ["OtherSigns"]
abbrev cs_fe_index : List Str := ["InvalidRules", "InvalidPasses", "InvalidWords", "InvalidGuards", "InvalidDeed"]
abbrev cs_fe_limit : List Str := ["TooMany", "TooWide"]
abbrev cs_fe_one : List Str := ["Lossy"]
abbrev cs_fe_shown : List Str := ["Refused"]
abbrev cs_fe_two : List Str := ["Lossy"]
abbrev cs_fe_value : List Str := ["InvalidSigns", "InvalidRow", "InvalidNumber", "InvalidEdge", "InvalidText", "InvalidLine", "NotAPass", "NotAChain", "NotBans"]
def top (i : Nat) : Stmt := PySem.Challenge.pw_nearundone_k18_errors_and_limits.main.body.getD i (.Pass ⟨0, 0, 0, 0⟩)
abbrev st__law_values : Stmt := top 40
abbrev st__law_classes : Stmt := top 42
abbrev st__law_is : Stmt := top 43
abbrev st__law_others_right : Stmt := top 44
abbrev st__law_draw : Stmt := top 38
abbrev st__law_one : Stmt := top 39
abbrev st__law_indexes : Stmt := top 41
abbrev st__law_right : Stmt := top 45
abbrev st__law_bag : Stmt := top 37
abbrev st_law : Stmt := top 46
abbrev st_InvalidSigns___init__ : Stmt := (clsB (top 4)).getD 0 (.Pass ⟨0, 0, 0, 0⟩)
abbrev st_InvalidRow___init__ : Stmt := (clsB (top 5)).getD 0 (.Pass ⟨0, 0, 0, 0⟩)
abbrev st_InvalidNumber___init__ : Stmt := (clsB (top 6)).getD 0 (.Pass ⟨0, 0, 0, 0⟩)
abbrev st_InvalidRules___init__ : Stmt := (clsB (top 7)).getD 0 (.Pass ⟨0, 0, 0, 0⟩)
abbrev st_InvalidEdge___init__ : Stmt := (clsB (top 8)).getD 0 (.Pass ⟨0, 0, 0, 0⟩)
abbrev st_InvalidPasses___init__ : Stmt := (clsB (top 9)).getD 0 (.Pass ⟨0, 0, 0, 0⟩)
abbrev st_InvalidWords___init__ : Stmt := (clsB (top 10)).getD 0 (.Pass ⟨0, 0, 0, 0⟩)
abbrev st_InvalidText___init__ : Stmt := (clsB (top 11)).getD 0 (.Pass ⟨0, 0, 0, 0⟩)
abbrev st_InvalidGuards___init__ : Stmt := (clsB (top 12)).getD 0 (.Pass ⟨0, 0, 0, 0⟩)
abbrev st_InvalidDeed___init__ : Stmt := (clsB (top 13)).getD 0 (.Pass ⟨0, 0, 0, 0⟩)
abbrev st_InvalidLine___init__ : Stmt := (clsB (top 14)).getD 0 (.Pass ⟨0, 0, 0, 0⟩)
abbrev st_NotAPass___init__ : Stmt := (clsB (top 15)).getD 0 (.Pass ⟨0, 0, 0, 0⟩)
abbrev st_NotAChain___init__ : Stmt := (clsB (top 16)).getD 0 (.Pass ⟨0, 0, 0, 0⟩)
abbrev st_NotBans___init__ : Stmt := (clsB (top 17)).getD 0 (.Pass ⟨0, 0, 0, 0⟩)
abbrev st_OtherSigns___init__ : Stmt := (clsB (top 18)).getD 0 (.Pass ⟨0, 0, 0, 0⟩)
abbrev st_Lossy___init__ : Stmt := (clsB (top 19)).getD 0 (.Pass ⟨0, 0, 0, 0⟩)
abbrev st_Refused___init__ : Stmt := (clsB (top 24)).getD 0 (.Pass ⟨0, 0, 0, 0⟩)
abbrev st_TooMany___init__ : Stmt := (clsB (top 25)).getD 0 (.Pass ⟨0, 0, 0, 0⟩)
abbrev st_TooWide___init__ : Stmt := (clsB (top 26)).getD 0 (.Pass ⟨0, 0, 0, 0⟩)
def dd__law_values : He.DefD := ⟨("_law_values", none), "_law_values", "_law_values", defArgs st__law_values, defBody st__law_values, defScope st__law_values, [], []⟩
def dd__law_classes : He.DefD := ⟨("_law_classes", none), "_law_classes", "_law_classes", defArgs st__law_classes, defBody st__law_classes, defScope st__law_classes, [], []⟩
def dd__law_is : He.DefD := ⟨("_law_is", none), "_law_is", "_law_is", defArgs st__law_is, defBody st__law_is, defScope st__law_is, [], []⟩
def dd__law_others_right : He.DefD := ⟨("_law_others_right", none), "_law_others_right", "_law_others_right", defArgs st__law_others_right, defBody st__law_others_right, defScope st__law_others_right, [], []⟩
def dd__law_draw : He.DefD := ⟨("_law_draw", none), "_law_draw", "_law_draw", defArgs st__law_draw, defBody st__law_draw, defScope st__law_draw, [], []⟩
def dd__law_one : He.DefD := ⟨("_law_one", none), "_law_one", "_law_one", defArgs st__law_one, defBody st__law_one, defScope st__law_one, [], []⟩
def dd__law_indexes : He.DefD := ⟨("_law_indexes", none), "_law_indexes", "_law_indexes", defArgs st__law_indexes, defBody st__law_indexes, defScope st__law_indexes, [], []⟩
def dd__law_right : He.DefD := ⟨("_law_right", none), "_law_right", "_law_right", defArgs st__law_right, defBody st__law_right, defScope st__law_right, [], []⟩
def dd__law_bag : He.DefD := ⟨("_law_bag", none), "_law_bag", "_law_bag", defArgs st__law_bag, defBody st__law_bag, defScope st__law_bag, [], []⟩
def dd_law : He.DefD := ⟨("law", none), "law", "law", defArgs st_law, defBody st_law, defScope st_law, [], []⟩
def dd_InvalidSigns___init__ : He.DefD := ⟨("InvalidSigns", some "__init__"), "__init__", "InvalidSigns.__init__", defArgs st_InvalidSigns___init__, defBody st_InvalidSigns___init__, defScope st_InvalidSigns___init__, [], []⟩
def dd_InvalidRow___init__ : He.DefD := ⟨("InvalidRow", some "__init__"), "__init__", "InvalidRow.__init__", defArgs st_InvalidRow___init__, defBody st_InvalidRow___init__, defScope st_InvalidRow___init__, [], []⟩
def dd_InvalidNumber___init__ : He.DefD := ⟨("InvalidNumber", some "__init__"), "__init__", "InvalidNumber.__init__", defArgs st_InvalidNumber___init__, defBody st_InvalidNumber___init__, defScope st_InvalidNumber___init__, [], []⟩
def dd_InvalidRules___init__ : He.DefD := ⟨("InvalidRules", some "__init__"), "__init__", "InvalidRules.__init__", defArgs st_InvalidRules___init__, defBody st_InvalidRules___init__, defScope st_InvalidRules___init__, [], []⟩
def dd_InvalidEdge___init__ : He.DefD := ⟨("InvalidEdge", some "__init__"), "__init__", "InvalidEdge.__init__", defArgs st_InvalidEdge___init__, defBody st_InvalidEdge___init__, defScope st_InvalidEdge___init__, [], []⟩
def dd_InvalidPasses___init__ : He.DefD := ⟨("InvalidPasses", some "__init__"), "__init__", "InvalidPasses.__init__", defArgs st_InvalidPasses___init__, defBody st_InvalidPasses___init__, defScope st_InvalidPasses___init__, [], []⟩
def dd_InvalidWords___init__ : He.DefD := ⟨("InvalidWords", some "__init__"), "__init__", "InvalidWords.__init__", defArgs st_InvalidWords___init__, defBody st_InvalidWords___init__, defScope st_InvalidWords___init__, [], []⟩
def dd_InvalidText___init__ : He.DefD := ⟨("InvalidText", some "__init__"), "__init__", "InvalidText.__init__", defArgs st_InvalidText___init__, defBody st_InvalidText___init__, defScope st_InvalidText___init__, [], []⟩
def dd_InvalidGuards___init__ : He.DefD := ⟨("InvalidGuards", some "__init__"), "__init__", "InvalidGuards.__init__", defArgs st_InvalidGuards___init__, defBody st_InvalidGuards___init__, defScope st_InvalidGuards___init__, [], []⟩
def dd_InvalidDeed___init__ : He.DefD := ⟨("InvalidDeed", some "__init__"), "__init__", "InvalidDeed.__init__", defArgs st_InvalidDeed___init__, defBody st_InvalidDeed___init__, defScope st_InvalidDeed___init__, [], []⟩
def dd_InvalidLine___init__ : He.DefD := ⟨("InvalidLine", some "__init__"), "__init__", "InvalidLine.__init__", defArgs st_InvalidLine___init__, defBody st_InvalidLine___init__, defScope st_InvalidLine___init__, [], []⟩
def dd_NotAPass___init__ : He.DefD := ⟨("NotAPass", some "__init__"), "__init__", "NotAPass.__init__", defArgs st_NotAPass___init__, defBody st_NotAPass___init__, defScope st_NotAPass___init__, [], []⟩
def dd_NotAChain___init__ : He.DefD := ⟨("NotAChain", some "__init__"), "__init__", "NotAChain.__init__", defArgs st_NotAChain___init__, defBody st_NotAChain___init__, defScope st_NotAChain___init__, [], []⟩
def dd_NotBans___init__ : He.DefD := ⟨("NotBans", some "__init__"), "__init__", "NotBans.__init__", defArgs st_NotBans___init__, defBody st_NotBans___init__, defScope st_NotBans___init__, [], []⟩
def dd_OtherSigns___init__ : He.DefD := ⟨("OtherSigns", some "__init__"), "__init__", "OtherSigns.__init__", defArgs st_OtherSigns___init__, defBody st_OtherSigns___init__, defScope st_OtherSigns___init__, [], []⟩
def dd_Lossy___init__ : He.DefD := ⟨("Lossy", some "__init__"), "__init__", "Lossy.__init__", defArgs st_Lossy___init__, defBody st_Lossy___init__, defScope st_Lossy___init__, [], []⟩
def dd_Refused___init__ : He.DefD := ⟨("Refused", some "__init__"), "__init__", "Refused.__init__", defArgs st_Refused___init__, defBody st_Refused___init__, defScope st_Refused___init__, [], []⟩
def dd_TooMany___init__ : He.DefD := ⟨("TooMany", some "__init__"), "__init__", "TooMany.__init__", defArgs st_TooMany___init__, defBody st_TooMany___init__, defScope st_TooMany___init__, [], []⟩
def dd_TooWide___init__ : He.DefD := ⟨("TooWide", some "__init__"), "__init__", "TooWide.__init__", defArgs st_TooWide___init__, defBody st_TooWide___init__, defScope st_TooWide___init__, [], []⟩
def hk : Hk := ⟨5, ([(fun K => (He.Fa.free "ArithmeticError").ok K), (fun K => (He.Fa.free "LookupError").ok K), (fun K => (He.Fa.free "ValueError").ok K), (fun K => (He.Fa.free "abs").ok K), (fun K => (He.Fa.free "all").ok K), (fun K => (He.Fa.free "int").ok K), (fun K => (He.Fa.free "isinstance").ok K), (fun K => (He.Fa.free "len").ok K), (fun K => (He.Fa.free "max").ok K), (fun K => (He.Fa.free "min").ok K), (fun K => (He.Fa.free "range").ok K), (fun K => (He.Fa.free "repr").ok K), (fun K => (He.Fa.int "MOST_DEEDS" 100).ok K), (fun K => (He.Fa.int "MOST_LENGTH" 2000).ok K), (fun K => (He.Fa.int "MOST_PASSES" 12).ok K), (fun K => (He.Fa.int "MOST_REACH" 2).ok K), (fun K => (He.Fa.int "MOST_RULES" 12).ok K), (fun K => (He.Fa.int "MOST_SETS" 1000).ok K), (fun K => (He.Fa.int "MOST_SIGNS" 4).ok K), (fun K => (He.Fa.int "MOST_WIDE" 256).ok K), (fun K => (He.Fa.int "MOST_WORDS" 8).ok K), (fun K => (He.Fa.glo "_law_values").ok K), (fun K => (He.Fa.glo "_law_classes").ok K), (fun K => (He.Fa.glo "_law_is").ok K), (fun K => (He.Fa.glo "_law_others_right").ok K), (fun K => (He.Fa.glo "_law_draw").ok K), (fun K => (He.Fa.glo "_law_one").ok K), (fun K => (He.Fa.glo "_law_indexes").ok K), (fun K => (He.Fa.glo "_law_right").ok K), (fun K => (He.Fa.glo "_law_bag").ok K)] : List (PySem.W.Frag → Bool)) ++ ([(fun K => (He.Fa.glo "law").ok K), (fun K => (He.Fa.glo "InvalidSigns").ok K), (fExM "InvalidSigns"), (fun K => He.eqO (PySem.W.findIn K (.ref (He.ga K "InvalidSigns")) "value") (some none)), (fun K => (He.Fa.glo "InvalidRow").ok K), (fExM "InvalidRow"), (fun K => He.eqO (PySem.W.findIn K (.ref (He.ga K "InvalidRow")) "value") (some none)), (fun K => (He.Fa.glo "InvalidNumber").ok K), (fExM "InvalidNumber"), (fun K => He.eqO (PySem.W.findIn K (.ref (He.ga K "InvalidNumber")) "value") (some none)), (fun K => (He.Fa.glo "InvalidRules").ok K), (fExM "InvalidRules"), (fun K => He.eqO (PySem.W.findIn K (.ref (He.ga K "InvalidRules")) "index") (some none)), (fun K => (He.Fa.glo "InvalidEdge").ok K), (fExM "InvalidEdge"), (fun K => He.eqO (PySem.W.findIn K (.ref (He.ga K "InvalidEdge")) "value") (some none)), (fun K => (He.Fa.glo "InvalidPasses").ok K), (fExM "InvalidPasses"), (fun K => He.eqO (PySem.W.findIn K (.ref (He.ga K "InvalidPasses")) "index") (some none)), (fun K => (He.Fa.glo "InvalidWords").ok K), (fExM "InvalidWords"), (fun K => He.eqO (PySem.W.findIn K (.ref (He.ga K "InvalidWords")) "index") (some none)), (fun K => (He.Fa.glo "InvalidText").ok K), (fExM "InvalidText"), (fun K => He.eqO (PySem.W.findIn K (.ref (He.ga K "InvalidText")) "value") (some none)), (fun K => (He.Fa.glo "InvalidGuards").ok K), (fExM "InvalidGuards"), (fun K => He.eqO (PySem.W.findIn K (.ref (He.ga K "InvalidGuards")) "index") (some none)), (fun K => (He.Fa.glo "InvalidDeed").ok K), (fExM "InvalidDeed")] : List (PySem.W.Frag → Bool)) ++ ([(fun K => He.eqO (PySem.W.findIn K (.ref (He.ga K "InvalidDeed")) "index") (some none)), (fun K => (He.Fa.glo "InvalidLine").ok K), (fExM "InvalidLine"), (fun K => He.eqO (PySem.W.findIn K (.ref (He.ga K "InvalidLine")) "value") (some none)), (fun K => (He.Fa.glo "NotAPass").ok K), (fExM "NotAPass"), (fun K => He.eqO (PySem.W.findIn K (.ref (He.ga K "NotAPass")) "value") (some none)), (fun K => (He.Fa.glo "NotAChain").ok K), (fExM "NotAChain"), (fun K => He.eqO (PySem.W.findIn K (.ref (He.ga K "NotAChain")) "value") (some none)), (fun K => (He.Fa.glo "NotBans").ok K), (fExM "NotBans"), (fun K => He.eqO (PySem.W.findIn K (.ref (He.ga K "NotBans")) "value") (some none)), (fun K => (He.Fa.glo "OtherSigns").ok K), (fExM "OtherSigns"), (fun K => He.eqO (PySem.W.findIn K (.ref (He.ga K "OtherSigns")) "given") (some none)), (fun K => (He.Fa.glo "Lossy").ok K), (fExM "Lossy"), (fun K => He.eqO (PySem.W.findIn K (.ref (He.ga K "Lossy")) "one") (some none)), (fun K => He.eqO (PySem.W.findIn K (.ref (He.ga K "Lossy")) "two") (some none)), (fun K => (He.Fa.glo "Refused").ok K), (fExM "Refused"), (fun K => He.eqO (PySem.W.findIn K (.ref (He.ga K "Refused")) "deed") (some none)), (fun K => He.eqO (PySem.W.findIn K (.ref (He.ga K "Refused")) "shown") (some none)), (fun K => (He.Fa.glo "TooMany").ok K), (fExM "TooMany"), (fun K => He.eqO (PySem.W.findIn K (.ref (He.ga K "TooMany")) "limit") (some none)), (fun K => (He.Fa.glo "TooWide").ok K), (fExM "TooWide"), (fun K => He.eqO (PySem.W.findIn K (.ref (He.ga K "TooWide")) "limit") (some none))] : List (PySem.W.Frag → Bool)) ++ ([(fun K => (He.Fa.glo "ShapeError").ok K), (fun K => (He.Fa.glo "QuestionError").ok K), (fun K => (He.Fa.glo "SizeError").ok K), (fun K => (He.Fa.glo "NoWalk").ok K), (fun K => (He.Fa.glo "Ended").ok K), (fun K => (He.Fa.glo "NothingToUndo").ok K), (fun K => (He.Fa.glo "Busy").ok K), (fE0M "NoWalk"), (fE0M "Ended"), (fE0M "NothingToUndo"), (fE0M "Busy"), (fXis cs_err), (fKt cs_err sup_ArithmeticError (.blt "ArithmeticError")), (fKt cs_err sup_Busy (.own "Busy")), (fKt cs_err sup_Ended (.own "Ended")), (fKt cs_err sup_InvalidDeed (.own "InvalidDeed")), (fKt cs_err sup_InvalidEdge (.own "InvalidEdge")), (fKt cs_err sup_InvalidGuards (.own "InvalidGuards")), (fKt cs_err sup_InvalidLine (.own "InvalidLine")), (fKt cs_err sup_InvalidNumber (.own "InvalidNumber")), (fKt cs_err sup_InvalidPasses (.own "InvalidPasses")), (fKt cs_err sup_InvalidRow (.own "InvalidRow")), (fKt cs_err sup_InvalidRules (.own "InvalidRules")), (fKt cs_err sup_InvalidSigns (.own "InvalidSigns")), (fKt cs_err sup_InvalidText (.own "InvalidText")), (fKt cs_err sup_InvalidWords (.own "InvalidWords")), (fKt cs_err sup_LookupError (.blt "LookupError")), (fKt cs_err sup_Lossy (.own "Lossy")), (fKt cs_err sup_NoWalk (.own "NoWalk")), (fKt cs_err sup_NotAChain (.own "NotAChain"))] : List (PySem.W.Frag → Bool)) ++ ([(fKt cs_err sup_NotAPass (.own "NotAPass")), (fKt cs_err sup_NotBans (.own "NotBans")), (fKt cs_err sup_NothingToUndo (.own "NothingToUndo")), (fKt cs_err sup_OtherSigns (.own "OtherSigns")), (fKt cs_err sup_QuestionError (.own "QuestionError")), (fKt cs_err sup_Refused (.own "Refused")), (fKt cs_err sup_ShapeError (.own "ShapeError")), (fKt cs_err sup_SizeError (.own "SizeError")), (fKt cs_err sup_TooMany (.own "TooMany")), (fKt cs_err sup_TooWide (.own "TooWide")), (fKt cs_err sup_ValueError (.blt "ValueError")), (fNoF cs_fe_deed "deed"), (fNoF cs_fe_given "given"), (fNoF cs_fe_index "index"), (fNoF cs_fe_limit "limit"), (fNoF cs_fe_one "one"), (fNoF cs_fe_shown "shown"), (fNoF cs_fe_two "two"), (fNoF cs_fe_value "value")] : List (PySem.W.Frag → Bool)), ([dd__law_values, dd__law_classes, dd__law_is, dd__law_others_right, dd__law_draw, dd__law_one, dd__law_indexes, dd__law_right, dd__law_bag, dd_law, dd_InvalidSigns___init__, dd_InvalidRow___init__, dd_InvalidNumber___init__, dd_InvalidRules___init__, dd_InvalidEdge___init__, dd_InvalidPasses___init__, dd_InvalidWords___init__, dd_InvalidText___init__, dd_InvalidGuards___init__, dd_InvalidDeed___init__, dd_InvalidLine___init__, dd_NotAPass___init__, dd_NotAChain___init__, dd_NotBans___init__, dd_OtherSigns___init__, dd_Lossy___init__, dd_Refused___init__, dd_TooMany___init__, dd_TooWide___init__] : List He.DefD), []⟩
abbrev Rw : PySem.W.OpenRow := PySem.W.OpenLaw.row PySem.Challenge.rw_nearundone_k18_errors_and_limits
def names : List PySem.Str := (["ShapeError", "QuestionError", "SizeError", "InvalidSigns", "InvalidRow", "InvalidNumber", "InvalidRules", "InvalidEdge", "InvalidPasses", "InvalidWords", "InvalidText", "InvalidGuards", "InvalidDeed", "InvalidLine", "NotAPass", "NotAChain", "NotBans", "OtherSigns", "Lossy", "NoWalk", "Ended", "NothingToUndo", "Busy", "Refused", "TooMany", "TooWide", "MOST_SIGNS", "MOST_REACH", "MOST_RULES", "MOST_PASSES"] : List PySem.Str) ++ (["MOST_WORDS", "MOST_WIDE", "MOST_SETS", "MOST_LENGTH", "MOST_DEEDS", "_law_bag", "_law_draw", "_law_one", "_law_values", "_law_indexes", "_law_classes", "_law_is", "_law_others_right", "_law_right"] : List PySem.Str)
def ob (s : PySem.W.SharedT) : He.AlD := hk.obsG (HandSHeadRun.getT s)
theorem ob_eq (s : PySem.W.SharedT) : ob s = hk.hook.obs s.abs := Hk.obsG_eq (HandSHeadRun.getT_eq s)
open PySem PySem.W PySem.Calls PyProof.Rows HandSHeadRun in
theorem run_two (w : World) {A B C : Type} {z : Option PySem.W.SharedT} {a : PySem.W.SharedT → A} {b : PySem.W.SharedT → B} {c : PySem.W.SharedT → C} {x : A} {y : B} {v : C} (h1 : z.map (fun s => (a s, b s)) = some (x, y)) (h2 : z.map c = some v) : z.map (fun s => (a s, b s, c s)) = some (x, y, v) := by
  cases z with
  | none => cases h1
  | some s =>
    have e1 := Option.some.inj h1
    have e2 := Option.some.inj h2
    have e3 := congrArg Prod.fst e1
    have e4 := congrArg Prod.snd e1
    exact congrArg some (Prod.ext e3 (Prod.ext e4 e2))
open PySem PySem.W PySem.Calls PyProof.Rows HandSHeadRun in
theorem runA (w : World) : ∀ os : OsState, (endF (stepQ (denQ tabQ) Rw.prog w) 20000 Rw.prog w os).map (fun s => (looksF Rw.prog (boot_heap w.params) s.abs, seenQ (PySem.W.view Rw.prog [46]) names (importedModules Rw.prog.main.body) (fun s => xlAt (PySem.W.view Rw.prog [46]) [] s && recOk Rw.toRowW.records s) s.abs)) = some (true, openGood (PySem.W.view Rw.prog [46]) names) := by
  intro os
  kernel_rfl
open PySem PySem.W PySem.Calls PyProof.Rows HandSHeadRun in
theorem runB (w : World) : ∀ os : OsState, (endF (stepQ (denQ tabQ) Rw.prog w) 20000 Rw.prog w os).map ob = some (hk.hook.val w) := by
  intro os
  kernel_rfl
theorem run (w : World) : HandSHeadRun.RunEq Rw (PySem.W.view Rw.prog [46]) hk.hook ob 20000 names w := fun os => run_two w (runA w os) (runB w os)
end Law
/-! dicts with any keys that are numbers, texts, None and tuples of such -/
namespace NuD
open PySem
abbrev Ent := NestedKey × Value × Value
def entD (w : World) (x : Ent) : DictEntry := ⟨x.1.hash w, x.2.1, x.2.2⟩
def fit (h : Heap) (k : NestedKey) (v : Value) : Prop := NestedIs h k v ∧ k.depth ≤ 8
structure Dh (w : World) (h : Heap) (d : Addr) (xs : List Ent) : Prop where
  ex : ∃ o es ep, h.get? d = some o ∧ o.ExactDict ∧ o.data = .dict es ep ∧ es.toList = xs.map (entD w) ∧ ep = xs.length
  is : ∀ x ∈ xs, fit h x.1 x.2.1
  nd : (xs.map (·.1)).Nodup
section
variable {prog : Program} {w : World} {A : Around} {E : Value → Shared → Prop} {s : Shared} {d : Addr} {o : Obj} {es : Array DictEntry} {ep : Nat} {xs : List Ent} {k : NestedKey} {key : Value}
def places (w : World) (es : Array DictEntry) (k : NestedKey) : List Nat := placesWithHash es.size (fun i => es[i]?.map (·.hash)) (k.hash w)
theorem one_of (hn : (xs.map (·.1)).Nodup) {i j : Nat} {x y : Ent} (hi : xs[i]? = some x) (hj : xs[j]? = some y) (e : x.1 = y.1) : i = j := by
  have h1 : (xs.map (·.1))[i]? = some x.1 := by simp [hi]
  have h2 : (xs.map (·.1))[j]? = some x.1 := by simp [hj, e]
  have hl : i < (xs.map (·.1)).length := (List.getElem?_eq_some_iff.mp h1).1
  exact (List.getElem?_inj hl hn).mp (h1.trans h2.symm)
abbrev storedAt (w : World) (es : Array DictEntry) (k : NestedKey) : List Value := (places w es k).filterMap fun i => es[i]?.map (·.key)
/-! ### what is there, what is stored -/
def atK (xs : List Ent) (k : NestedKey) : Option Value := (xs.find? fun x => decide (x.1 = k)).map (·.2.2)
def setK (xs : List Ent) (k : NestedKey) (u v : Value) : List Ent := if (atK xs k).isSome then xs.map (fun x => if x.1 = k then (x.1, x.2.1, v) else x) else xs ++ [(k, u, v)]
theorem atK_none (h : ∀ (j : Nat) (x : Ent), xs[j]? = some x → x.1 ≠ k) : atK xs k = none := by
  unfold atK
  rw [List.find?_eq_none.mpr]
  · rfl
  · intro x hx hk
    obtain ⟨j, hj⟩ := List.mem_iff_getElem?.mp hx
    exact h j x hj (of_decide_eq_true hk)
theorem atK_some (hn : (xs.map (·.1)).Nodup) {j : Nat} {x : Ent} (hx : xs[j]? = some x) (hk : x.1 = k) : atK xs k = some x.2.2 := by
  unfold atK
  cases hf : xs.find? (fun x => decide (x.1 = k)) with
  | none => exact absurd hk (by simpa using List.find?_eq_none.mp hf x (List.mem_of_getElem? hx))
  | some y =>
    have hy : y.1 = k := by simpa using List.find?_some hf
    obtain ⟨i, hi⟩ := List.mem_iff_getElem?.mp (List.mem_of_find?_eq_some hf)
    have := one_of hn hi hx (hy.trans hk.symm)
    subst this
    rw [hx] at hi
    cases hi
    rfl
theorem setK_keys (xs : List Ent) (k : NestedKey) (u v : Value) : (setK xs k u v).map (·.1) = if (atK xs k).isSome then xs.map (·.1) else xs.map (·.1) ++ [k] := by
  unfold setK
  split
  · rw [List.map_map]
    apply List.map_congr_left
    intro x _
    show (if x.1 = k then (x.1, x.2.1, v) else x).1 = x.1
    split <;> rfl
  · simp
theorem setK_nd (hn : (xs.map (·.1)).Nodup) (u v : Value) : ((setK xs k u v).map (·.1)).Nodup := by
  rw [setK_keys]
  split
  · exact hn
  · rename_i h
    rw [List.nodup_append]
    refine ⟨hn, by simp, ?_⟩
    intro a ha b hb e
    rw [List.mem_singleton.mp hb] at e
    subst e
    obtain ⟨x, hx, rfl⟩ := List.mem_map.mp ha
    obtain ⟨j, hj⟩ := List.mem_iff_getElem?.mp hx
    rw [atK_some hn hj rfl] at h
    exact h rfl
def DicAt (w : World) (h : Heap) (d : Addr) (xs : List Ent) : Prop := ∃ (o : Obj) (_ : Nat), h.get? d = some o ∧ o.ExactDict ∧ o.data = .dict (xs.map (entD w)).toArray xs.length
theorem Dh.at_ (m : Dh w s.heap d xs) : DicAt w s.heap d xs := by
  obtain ⟨o, es, ep, ho, hc, hd, he, hep⟩ := m.ex
  refine ⟨o, 0, ho, hc, ?_⟩
  rw [hd, ← he, hep]
theorem Dh.of (m : DicAt w s.heap d xs) (is : ∀ x ∈ xs, fit s.heap x.1 x.2.1) (nd : (xs.map (·.1)).Nodup) : Dh w s.heap d xs := by
  obtain ⟨o, ep, ho, hc, hd⟩ := m
  exact ⟨⟨o, _, _, ho, hc, hd, rfl, rfl⟩, is, nd⟩
theorem Dh.ty (m : Dh w s.heap d xs) : s.TypeIs (.ref d) "dict" := let ⟨o, _, _, ho, hc, _⟩ := m.ex; ⟨o, ho, hc.1⟩
end
end NuD
namespace Nu
open PySem PySem.Spec PyProof.Rows L2
class WorldI where
  w : World
variable [WorldI]

/-! ## data -/
abbrev Cp := Fin 1114112
def toStr (x : List Cp) : Str := ⟨(x.map (·.val)).toArray⟩
theorem toStr_inj {x y : List Cp} (h : toStr x = toStr y) : x = y := by
  unfold toStr at h
  have h1 : (x.map (·.val)).toArray = (y.map (·.val)).toArray := congrArg Str.cps h
  have h2 : x.map (·.val) = y.map (·.val) := by simpa using congrArg Array.toList h1
  exact (List.map_inj_right (fun a b e => Fin.ext e)).mp h2

inductive D where
  | non | bl (b : Bool) | int (i : Int) | str (x : List Cp) | ty (n : String) | cls (c : Str)
  | tup (ds : List D) | lst (ds : List D) | obj (c : Str) (fs : List (Str × D)) | scr (ds : List D) | exc (a dd : Addr) (fs : List (Str × D)) | emp
  | dic (es : List (D × D))
  | adr (a : Addr)
  | fix (a : Addr) (d : D)
  | err (c : Str) (fs : List (Str × D))
mutual
def keyOf : D → Option NestedKey
  | .non => some .none
  | .bl b => some (.num (if b = true then 1 else 0))
  | .int i => some (.num i)
  | .str x => some (.text (toStr x))
  | .tup ds => (keysOf ds).map .tup
  | .ty _ => none
  | .cls _ => none
  | .lst _ => none
  | .obj _ _ => none
  | .scr _ => none
  | .exc _ _ _ => none
  | .emp => none
  | .dic _ => none
  | .adr _ => none
  | .fix _ _ => none
  | .err _ _ => none
def keysOf : List D → Option (List NestedKey)
  | [] => some []
  | d :: r => (keyOf d).bind fun x => (keysOf r).map (x :: ·)
end
def key8 (d : D) : Option NestedKey := (keyOf d).bind fun k => if k.depth ≤ 8 then some k else none
abbrev Ents := List NuD.Ent
def DicHO (a : Addr) (L : Ents) : HO := .ext fun h => NuD.DicAt WorldI.w h a L
def ndK (L : Ents) : Prop := (L.map (·.1)).Nodup

inductive Kd where | sh | ow | pin
  deriving DecidableEq
abbrev Rho := List (Option (D × Kd))

mutual
inductive Rel (K : PySem.W.Frag) (F : Hp) : V → D → Prop
  | non : Rel K F .non .non
  | bl (b : Bool) : Rel K F (.bl b) (.bl b)
  | int (i : Int) : Rel K F (.int i) (.int i)
  | str (x : List Cp) : Rel K F (.str (toStr x)) (.str x)
  | ty (n : String) : Rel K F (.ty n) (.ty n)
  | cls (c : Str) : Rel K F (.ref (He.ga K c)) (.cls c)
  | tup {a : Addr} {vs : List V} {ds : List D} : SqT K F a vs → Rels K F vs ds → Rel K F (.ref a) (.tup ds)
  | lst {a : Addr} {vs : List V} {ds : List D} : F a = some (.lst vs) → Rels K F vs ds → Rel K F (.ref a) (.lst ds)
  | scr {a : Addr} {vs : List V} {ds : List D} : SqL K F a vs → Rels K F vs ds → Rel K F (.ref a) (.scr ds)
  | obj {a dx : Addr} {c : Str} {vs : List (Str × V)} {fs : List (Str × D)} : F a = some (.ins (He.ga K c) dx vs) → RelF K F vs fs → Rel K F (.ref a) (.obj c fs)
  | exc {a dd : Addr} {vs : List (Str × V)} {fs : List (Str × D)} : F dd = some (.xd vs) → RelF K F vs fs → Rel K F (.ref a) (.exc a dd fs)
  | emp {a : Addr} : F a = some (.dK []) → Rel K F (.ref a) .emp
  | dic {a : Addr} {L : Ents} {es : List (D × D)} : F a = some (DicHO a L) → (a == sysModules) = false → ndK L → RelD K F L es → Rel K F (.ref a) (.dic es)
  | adr {a : Addr} : Rel K F (.ref a) (.adr a)
  | fix {a : Addr} {d : D} : Rel K F (.ref a) d → Rel K F (.ref a) (.fix a d)
  | err {a d : Addr} {c : Str} {vs : List (Str × V)} {fs : List (Str × D)} : F a = some (exo a (He.ga K c) (some d)) → F d = some (exd d vs) → RelF K F vs fs → Rel K F (.ref a) (.err c fs)
  | err0 {a : Addr} {c : Str} : F a = some (ExO (.ref (He.ga K c)) a) → Rel K F (.ref a) (.err c [])
inductive Rels (K : PySem.W.Frag) (F : Hp) : List V → List D → Prop
  | nil : Rels K F [] []
  | cons {v : V} {vs : List V} {d : D} {ds : List D} : Rel K F v d → Rels K F vs ds → Rels K F (v :: vs) (d :: ds)
inductive RelF (K : PySem.W.Frag) (F : Hp) : List (Str × V) → List (Str × D) → Prop
  | nil : RelF K F [] []
  | cons {n : Str} {v : V} {vs : List (Str × V)} {d : D} {ds : List (Str × D)} : Rel K F v d → RelF K F vs ds → RelF K F ((n, v) :: vs) ((n, d) :: ds)
inductive RelD (K : PySem.W.Frag) (F : Hp) : Ents → List (D × D) → Prop
  | nil : RelD K F [] []
  | cons {k : NestedKey} {u x : Value} {v z : V} {dk dv : D} {L : Ents} {es : List (D × D)} : key8 dk = some k → RelV v u → Rel K F v dk → RelV z x → Rel K F z dv → RelD K F L es → RelD K F ((k, u, x) :: L) ((dk, dv) :: es)
end

abbrev St := L2.St
abbrev Le (F F' : Hp) : Prop := Evl.Ex F F'
section
variable {K : PySem.W.Frag} {F F' H H' Z : Hp}
mutual
theorem Rel.mono (e : Le F F') : ∀ {v : V} {d : D}, Rel K F v d → Rel K F' v d
  | _, _, .non => .non
  | _, _, .bl b => .bl b
  | _, _, .int i => .int i
  | _, _, .str x => .str x
  | _, _, .ty n => .ty n
  | _, _, .cls n => .cls n
  | _, _, .tup h r => .tup (Evl.ex_t e h) (Rels.mono e r)
  | _, _, .lst h r => .lst (e _ _ h) (Rels.mono e r)
  | _, _, .scr h r => .scr (Evl.ex_l e h) (Rels.mono e r)
  | _, _, .obj h r => .obj (e _ _ h) (RelF.mono e r)
  | _, _, .exc h r => .exc (e _ _ h) (RelF.mono e r)
  | _, _, .emp h => .emp (e _ _ h)
  | _, _, .dic h s n r => .dic (e _ _ h) s n (RelD.mono e r)
  | _, _, .adr => .adr
  | _, _, .fix h => .fix (Rel.mono e h)
  | _, _, .err h g r => .err (e _ _ h) (e _ _ g) (RelF.mono e r)
  | _, _, .err0 h => .err0 (e _ _ h)
theorem Rels.mono (e : Le F F') : ∀ {v : List V} {d : List D}, Rels K F v d → Rels K F' v d
  | _, _, .nil => .nil
  | _, _, .cons h r => .cons (Rel.mono e h) (Rels.mono e r)
theorem RelF.mono (e : Le F F') : ∀ {v : List (Str × V)} {d : List (Str × D)}, RelF K F v d → RelF K F' v d
  | _, _, .nil => .nil
  | _, _, .cons h r => .cons (Rel.mono e h) (RelF.mono e r)
theorem RelD.mono (e : Le F F') : ∀ {v : Ents} {d : List (D × D)}, RelD K F v d → RelD K F' v d
  | _, _, .nil => .nil
  | _, _, .cons k u h z g r => .cons k u (Rel.mono e h) z (Rel.mono e g) (RelD.mono e r)
end
theorem Rels.length : ∀ {vs : List V} {ds : List D}, Rels K F vs ds → vs.length = ds.length
  | _, _, .nil => rfl
  | _, _, .cons _ r => by rw [List.length_cons, List.length_cons, Rels.length r]
theorem Rels.get : ∀ {vs : List V} {ds : List D} {i : Nat} {d : D}, Rels K F vs ds → ds[i]? = some d → ∃ v, vs[i]? = some v ∧ Rel K F v d
  | _, _, _, _, .nil, e => by simp at e
  | _, _, 0, _, .cons r _, e => by simp at e; subst e; exact ⟨_, rfl, r⟩
  | _, _, i + 1, d, .cons _ t, e => by
    obtain ⟨u, h1, h2⟩ := Rels.get (i := i) (d := d) t (by simpa using e)
    exact ⟨u, by simpa using h1, h2⟩
theorem Rels.append : ∀ {vs ws : List V} {ds es : List D}, Rels K F vs ds → Rels K F ws es → Rels K F (vs ++ ws) (ds ++ es)
  | _, _, _, _, .nil, s => s
  | _, _, _, _, .cons r t, s => .cons r (Rels.append t s)
theorem Rels.take : ∀ {vs : List V} {ds : List D} (n : Nat), Rels K F vs ds → Rels K F (vs.take n) (ds.take n)
  | _, _, 0, _ => .nil
  | _, _, _ + 1, .nil => .nil
  | _, _, n + 1, .cons r t => .cons r (Rels.take n t)
theorem Rels.drop : ∀ {vs : List V} {ds : List D} (n : Nat), Rels K F vs ds → Rels K F (vs.drop n) (ds.drop n)
  | _, _, 0, r => r
  | _, _, _ + 1, .nil => .nil
  | _, _, n + 1, .cons _ t => Rels.drop n t
theorem Rels.set {v : V} {d : D} (r : Rel K F v d) : ∀ {vs : List V} {ds : List D} (i : Nat), Rels K F vs ds → Rels K F (vs.set i v) (ds.set i d)
  | _, _, _, .nil => .nil
  | _, _, 0, .cons _ t => .cons r t
  | _, _, i + 1, .cons q t => .cons q (Rels.set r i t)
theorem Rels.reverse : ∀ {vs : List V} {ds : List D}, Rels K F vs ds → Rels K F vs.reverse ds.reverse
  | _, _, .nil => .nil
  | _, _, .cons r t => by
    rw [List.reverse_cons, List.reverse_cons]
    exact (Rels.reverse t).append (.cons r .nil)
theorem Rels.replicate {v : V} {d : D} (r : Rel K F v d) : ∀ n : Nat, Rels K F (List.replicate n v) (List.replicate n d)
  | 0 => .nil
  | n + 1 => .cons r (Rels.replicate r n)
theorem Rels.flatten : ∀ {vs : List (List V)} {ds : List (List D)}, Paired (Rels K F) vs ds → Rels K F vs.flatten ds.flatten
  | _, _, .nil => .nil
  | _, _, .cons r t => by
    rw [List.flatten_cons, List.flatten_cons]
    exact r.append (Rels.flatten t)
theorem RelF.lookup {f : Str} : ∀ {vs : List (Str × V)} {fs : List (Str × D)}, RelF K F vs fs → (∀ d, fs.lookup f = some d → ∃ v, vs.lookup f = some v ∧ Rel K F v d) ∧ (fs.lookup f = none → vs.lookup f = none)
  | _, _, .nil => ⟨fun _ e => by simp at e, fun _ => rfl⟩
  | _, _, .cons (n := n) (v := v) (vs := vs) (d := d) (ds := ds) h r => by
    obtain ⟨h1, h2⟩ := RelF.lookup (f := f) r
    rw [List.lookup_cons, List.lookup_cons]
    cases hb : f == n with
    | true => exact ⟨fun d' e => by cases e; exact ⟨v, rfl, h⟩, fun e => by cases e⟩
    | false => exact ⟨fun d' e => h1 d' e, fun e => h2 e⟩
theorem RelF.length : ∀ {vs : List (Str × V)} {fs : List (Str × D)}, RelF K F vs fs → vs.length = fs.length
  | _, _, .nil => rfl
  | _, _, .cons _ r => by rw [List.length_cons, List.length_cons, RelF.length r]
def putD (f : Str) (v : D) : List (Str × D) → List (Str × D)
  | [] => [(f, v)]
  | (g, u) :: r => if g = f then (g, v) :: r else (g, u) :: putD f v r
end
end Nu
namespace Nu
open PySem PySem.Spec PyProof.Rows L2
variable [WorldI]

/-! ## tables of code objects -/
def lamQ (x : Str) : Str := (PyProof.Rows.envOfC x ⟨.function, [], false, false, []⟩ 0 0 .none).qual ++ ("<lambda>" : Str)
def mark (q : Str) : HO := .tbl #[.str q 0]
theorem mark_inj {q q' : Str} (h : mark q = mark q') : q = q' := by
  unfold mark at h
  injection h with h
  have h2 : (Value.str q 0) = Value.str q' 0 := by simpa using h
  injection h2
def ZAt (H : Hp) (a : Addr) (o : HO) : Prop := ((∀ ps, o ≠ .tbl ps) ∧ H a = some o) ∨ ∃ q, o = mark q ∧ LamX.TabS H a q
theorem ZAt.at_ {H : Hp} {a : Addr} {o : HO} (z : ZAt H a o) (n : ∀ ps, o ≠ .tbl ps) : H a = some o := by
  rcases z with ⟨_, h⟩ | ⟨q, rfl, _⟩
  · exact h
  · exact absurd rfl (n _)
theorem ZAt.any {H : Hp} {a : Addr} {o : HO} (z : ZAt H a o) : ∃ u, H a = some u := by
  rcases z with ⟨_, h⟩ | ⟨q, rfl, ps, h, _⟩
  · exact ⟨_, h⟩
  · exact ⟨_, h⟩
theorem ZAt.tab {H : Hp} {a : Addr} {q : Str} (z : ZAt H a (mark q)) : LamX.TabS H a q := by
  rcases z with ⟨n, _⟩ | ⟨q', e, h⟩
  · exact absurd rfl (n _)
  · cases mark_inj e; exact h
abbrev ZLe (Z H : Hp) : Prop := ∀ a o, Z a = some o → ZAt H a o
theorem ZLe.none {Z H : Hp} {a : Addr} (z : ZLe Z H) (n : H a = none) : Z a = none := by
  cases e : Z a with
  | none => rfl
  | some o => obtain ⟨u, h⟩ := (z a o e).any; rw [n] at h; cases h
theorem ZAt.grow {H H' : Hp} {a : Addr} {o : HO} (z : ZAt H a o) (l : ∀ b u, H b = some u → H' b = some u) : ZAt H' a o := by
  rcases z with ⟨n, h⟩ | ⟨q, e, h⟩
  · exact .inl ⟨n, l _ _ h⟩
  · exact .inr ⟨q, e, h.ext l⟩
theorem ZLe.grow {Z H H' : Hp} (z : ZLe Z H) (l : ∀ b u, H b = some u → H' b = some u) : ZLe Z H' := fun a o e => (z a o e).grow l
theorem ZLe.less {Z Z' H : Hp} (z : ZLe Z H) (l : ∀ b u, Z' b = some u → Z b = some u) : ZLe Z' H := fun a o e => z a o (l a o e)
def NoCode (o : HO) : Prop := ∀ c q, o ≠ LamX.CodeO c q
theorem dic_noCode {a : Addr} {L : Ents} : NoCode (DicHO a L) := by
  intro c q e
  unfold DicHO LamX.CodeO at e
  injection e with e
  have ob : (⟨(List.replicate (a + 1) ({ cls := .type "dict", data := .dict (L.map (NuD.entD WorldI.w)).toArray L.length } : Obj)).toArray, default⟩ : Heap).get? a = some { cls := .type "dict", data := .dict (L.map (NuD.entD WorldI.w)).toArray L.length } := by
    unfold Heap.get?
    simp
  have l : NuD.DicAt WorldI.w ⟨(List.replicate (a + 1) ({ cls := .type "dict", data := .dict (L.map (NuD.entD WorldI.w)).toArray L.length } : Obj)).toArray, default⟩ a L := ⟨_, 0, ob, ⟨rfl, rfl, rfl⟩, rfl⟩
  have r := (congrFun e _).mp l
  obtain ⟨oc, vs, t, h1, h2, _⟩ := r
  unfold Heap.get? at h1
  have h3 := List.getElem?_replicate (a := ({ cls := .type "dict", data := .dict (L.map (NuD.entD WorldI.w)).toArray L.length } : Obj)) (n := a + 1) (i := c)
  by_cases hc : c < a + 1
  · simp [hc] at h1
    rw [← h1] at h2
    cases h2
  · simp [hc] at h1
theorem ZAt.put {H : Hp} {a b : Addr} {o u : HO} (z : ZAt H a o) (n : a ≠ b) (h : ∀ w, H b = some w → NoCode w) : ZAt (upd H b u) a o := by
  rcases z with ⟨m, e⟩ | ⟨q, e, ps, h1, h2, h3⟩
  · exact .inl ⟨m, by rw [upd_ne n]; exact e⟩
  · refine .inr ⟨q, e, ps, by rw [upd_ne n]; exact h1, h2, fun pos cv hc => ?_⟩
    obtain ⟨c, e1, e2⟩ := h3 pos cv hc
    refine ⟨c, e1, ?_⟩
    rw [upd_ne fun z => ?_]
    · exact e2
    · subst z; exact h _ e2 _ _ rfl
theorem ZLe.put {Z H : Hp} {b : Addr} {u : HO} (z : ZLe Z H) (nz : Z b = .none) (h : ∀ w, H b = some w → NoCode w) : ZLe Z (upd H b u) := fun a o e => (z a o e).put (ne_of_none e nz) h
def Tabs0 (K : PySem.W.Frag) (Z : Hp) : Prop := ∀ x ∈ lamNames, isFnc K x = true → Z (He.cT K (x, none)).2 = some (mark (lamQ x))
theorem Tabs0.more {K : PySem.W.Frag} {Z Z' : Hp} (t : Tabs0 K Z) (l : ∀ b u, Z b = some u → Z' b = some u) : Tabs0 K Z' := fun x h1 h2 => l _ _ (t x h1 h2)

/-! ## owned objects, states -/
def OwnO (K : PySem.W.Frag) (F H : Hp) (a : Addr) : D → Prop
  | .lst ds => ∃ vs, H a = some (.lst vs) ∧ Rels K F vs ds
  | .obj c fs => ∃ dx vs, H a = some (.ins (He.ga K c) dx vs) ∧ RelF K F vs fs
  | .dic es => ∃ L, H a = some (DicHO a L) ∧ (a == sysModules) = false ∧ ndK L ∧ RelD K F L es
  | _ => False
structure Own (K : PySem.W.Frag) (Z F H : Hp) (a : Addr) (d : D) : Prop where
  nf : F a = none
  nz : Z a = none
  at_ : OwnO K F H a d
def SlR (K : PySem.W.Frag) (Z F H : Hp) (v : V) (d : D) : Kd → Prop
  | .sh => Rel K F v d
  | _ => ∃ a, v = .ref a ∧ Own K Z F H a d
structure SR (K : PySem.W.Frag) (P : Nat → Addr) (Z F : Hp) (σ : St) (ρ : Rho) (H : Hp) : Prop where
  fh : Le F H
  zh : ZLe Z H
  zf : ∀ a o, Z a = some o → F a = none
  zt : Tabs0 K Z
  len : σ.length = ρ.length
  sl : ∀ (i : Nat) (d : D) (k : Kd), ρ[i]? = some (some (d, k)) → ∃ v, σ[i]? = some (some v) ∧ SlR K Z F H v d k
  ap : ∀ (i j : Nat) (d e : D) (k l : Kd) (a : Addr), i ≠ j → ρ[i]? = some (some (d, k)) → ρ[j]? = some (some (e, l)) → k ≠ .sh → l ≠ .sh → σ[i]? = some (some (.ref a)) → σ[j]? = some (some (.ref a)) → False
  pn : ∀ (i : Nat) (d : D), ρ[i]? = some (some (d, .pin)) → σ[i]? = some (some (.ref (P i)))
def Free (σ : St) (ρ : Rho) (a : Addr) : Prop := ∀ (i : Nat) (d : D) (k : Kd), ρ[i]? = some (some (d, k)) → k ≠ .sh → σ[i]? ≠ some (some (.ref a))
def RvR (K : PySem.W.Frag) (Z F H : Hp) (σ : St) (ρ : Rho) (v : V) (d : D) : Bool → Prop
  | false => Rel K F v d
  | true => ∃ a, v = .ref a ∧ Own K Z F H a d ∧ Free σ ρ a

section
variable {K : PySem.W.Frag} {P : Nat → Addr} {F F' H H' Z Z' : Hp} {σ : St} {ρ ρ' : Rho} {v : V} {d : D} {a : Addr} {o : HO} {i : Nat}
theorem le_upd (h : F a = none) : Le F (upd F a o) := Evl.Ex.new h
theorem Own.obj_at (w : Own K Z F H a d) : ∃ o, H a = some o := by
  have h := w.at_
  cases d with
  | lst ds => obtain ⟨vs, e, _⟩ := h; exact ⟨_, e⟩
  | obj c fs => obtain ⟨dx, vs, e, _⟩ := h; exact ⟨_, e⟩
  | dic es => obtain ⟨L, e, _⟩ := h; exact ⟨_, e⟩
  | _ => exact h.elim
theorem OwnO.kind (w : OwnO K F H a d) (h : H a = some o) : (∀ ps, o ≠ .tbl ps) ∧ NoCode o := by
  cases d with
  | lst ds => obtain ⟨vs, e, _⟩ := w; rw [e] at h; cases h; exact ⟨fun _ => nofun, fun _ _ => nofun⟩
  | obj c fs => obtain ⟨dx, vs, e, _⟩ := w; rw [e] at h; cases h; exact ⟨fun _ => nofun, fun _ _ => nofun⟩
  | dic es => obtain ⟨L, e, _⟩ := w; rw [e] at h; cases h; exact ⟨fun _ => nofun, dic_noCode⟩
  | _ => exact w.elim
theorem OwnO.rel (h : OwnO K F H a d) (hf : ∀ o, H a = some o → F a = some o) : Rel K F (.ref a) d := by
  cases d with
  | lst ds => obtain ⟨vs, e, r⟩ := h; exact .lst (hf _ e) r
  | obj c fs => obtain ⟨dx, vs, e, r⟩ := h; exact .obj (hf _ e) r
  | dic es => obtain ⟨L, e, s, n, r⟩ := h; exact .dic (hf _ e) s n r
  | _ => exact h.elim
theorem OwnO.move (h : OwnO K F H a d) (e : Le F F') (k : ∀ o, H a = some o → H' a = some o) : OwnO K F' H' a d := by
  cases d with
  | lst ds => obtain ⟨vs, x, r⟩ := h; exact ⟨vs, k _ x, r.mono e⟩
  | obj c fs => obtain ⟨dx, vs, x, r⟩ := h; exact ⟨dx, vs, k _ x, r.mono e⟩
  | dic es => obtain ⟨L, x, s, n, r⟩ := h; exact ⟨L, k _ x, s, n, r.mono e⟩
  | _ => exact h.elim
theorem SlR.move {k : Kd} (h : SlR K Z F H v d k) (e : Le F F') (q : ∀ a o, v = .ref a → F a = none → Z a = none → H a = some o → H' a = some o ∧ F' a = none) : SlR K Z F' H' v d k := by
  cases k with
  | sh => exact Rel.mono e h
  | ow =>
    obtain ⟨a, rfl, w⟩ := h
    obtain ⟨o, ho⟩ := w.obj_at
    exact ⟨a, rfl, (q a o rfl w.nf w.nz ho).2, w.nz, w.at_.move e fun o' h' => (q a o' rfl w.nf w.nz h').1⟩
  | pin =>
    obtain ⟨a, rfl, w⟩ := h
    obtain ⟨o, ho⟩ := w.obj_at
    exact ⟨a, rfl, (q a o rfl w.nf w.nz ho).2, w.nz, w.at_.move e fun o' h' => (q a o' rfl w.nf w.nz h').1⟩

structure Grow (F H F' H' : Hp) : Prop where
  hh : Le H H'
  ff : Le F F'
  fh : Le F' H'
  new : ∀ a o, F' a = some o → F a = some o ∨ H a = none
theorem Grow.refl (h : Le F H) : Grow F H F H := ⟨Evl.Ex.refl H, Evl.Ex.refl F, h, fun _ _ e => .inl e⟩
theorem Grow.trans {F2 H2 : Hp} (g : Grow F H F' H') (k : Grow F' H' F2 H2) : Grow F H F2 H2 :=
  ⟨g.hh.trans k.hh, g.ff.trans k.ff, k.fh, fun a o e => by
    rcases k.new a o e with q | q
    · exact g.new a o q
    · exact .inr (Evl.fresh_back g.hh q)⟩
theorem Grow.frz (h : Le F H) (n : H a = none) : Grow F H (upd F a o) (upd H a o) := by
  have nf : F a = none := Evl.fresh_back h n
  refine ⟨le_upd n, le_upd nf, fun b u e => ?_, fun b u e => ?_⟩
  · by_cases hb : b = a
    · subst hb; rw [upd_same] at e ⊢; exact e
    · rw [upd_ne hb] at e ⊢; exact h b u e
  · by_cases hb : b = a
    · subst hb; exact .inr n
    · rw [upd_ne hb] at e; exact .inl e
theorem Grow.fresh (h : Le F H) (n : H a = none) : Grow F H F (upd H a o) := ⟨le_upd n, Evl.Ex.refl F, fun b u e => by
  have hb : b ≠ a := ne_of_none (h b u e) n
  rw [upd_ne hb]; exact h b u e, fun _ _ e => .inl e⟩
theorem SR.grow (S : SR K P Z F σ ρ H) (g : Grow F H F' H') : SR K P Z F' σ ρ H' where
  fh := g.fh
  zh := S.zh.grow g.hh
  zf := fun a o e => by
    cases q : F' a with
    | none => rfl
    | some u =>
      rcases g.new a u q with z | z
      · rw [S.zf a o e] at z; cases z
      · obtain ⟨w, hw⟩ := (S.zh a o e).any; rw [hw] at z; cases z
  zt := S.zt
  len := S.len
  sl := fun i d k e => by
    obtain ⟨v, hv, w⟩ := S.sl i d k e
    refine ⟨v, hv, w.move g.ff fun a o _ nf nz ho => ⟨g.hh a o ho, ?_⟩⟩
    cases q : F' a with
    | none => rfl
    | some u =>
      rcases g.new a u q with z | z
      · rw [nf] at z; cases z
      · rw [ho] at z; cases z
  ap := S.ap
  pn := S.pn
theorem SR.less (S : SR K P Z F σ ρ H) (h : Le Z' Z) (t : Tabs0 K Z') : SR K P Z' F σ ρ H where
  fh := S.fh
  zh := S.zh.less h
  zf := fun a o e => S.zf a o (h a o e)
  zt := t
  len := S.len
  sl := fun i d k e => by
    obtain ⟨v, hv, w⟩ := S.sl i d k e
    refine ⟨v, hv, ?_⟩
    cases k with
    | sh => exact w
    | ow => obtain ⟨a, r, w⟩ := w; exact ⟨a, r, w.nf, Evl.fresh_back h w.nz, w.at_⟩
    | pin => obtain ⟨a, r, w⟩ := w; exact ⟨a, r, w.nf, Evl.fresh_back h w.nz, w.at_⟩
  ap := S.ap
  pn := S.pn
theorem SR.more (S : SR K P Z F σ ρ H) (h : H a = some o) (nt : ∀ ps, o ≠ .tbl ps) (nf : F a = none) (nz : Z a = none) (fr : Free σ ρ a) : SR K P (upd Z a o) F σ ρ H where
  fh := S.fh
  zh := fun b u e => by
    by_cases hb : b = a
    · subst hb; rw [upd_same] at e; cases e; exact .inl ⟨nt, h⟩
    · rw [upd_ne hb] at e; exact S.zh b u e
  zt := S.zt.more (le_upd nz)
  zf := fun b u e => by
    by_cases hb : b = a
    · subst hb; exact nf
    · rw [upd_ne hb] at e; exact S.zf b u e
  len := S.len
  sl := fun i d k e => by
    obtain ⟨v, hv, w⟩ := S.sl i d k e
    refine ⟨v, hv, ?_⟩
    cases k with
    | sh => exact w
    | ow =>
      obtain ⟨b, r, w⟩ := w
      subst r
      have hb : b ≠ a := fun z => by subst z; exact fr i d _ e (by decide) hv
      exact ⟨b, rfl, w.nf, by rw [upd_ne hb]; exact w.nz, w.at_⟩
    | pin =>
      obtain ⟨b, r, w⟩ := w
      subst r
      have hb : b ≠ a := fun z => by subst z; exact fr i d _ e (by decide) hv
      exact ⟨b, rfl, w.nf, by rw [upd_ne hb]; exact w.nz, w.at_⟩
  ap := S.ap
  pn := S.pn
theorem SR.freeze (S : SR K P Z F σ ρ H) (h : H a = some o) (nf : F a = none) (nz : Z a = none) (fr : Free σ ρ a) : SR K P Z (upd F a o) σ ρ H where
  fh := fun b u e => by
    by_cases hb : b = a
    · subst hb; rw [upd_same] at e; rw [h]; exact e
    · rw [upd_ne hb] at e; exact S.fh b u e
  zh := S.zh
  zf := fun b u e => by
    have hb : b ≠ a := ne_of_none e nz
    rw [upd_ne hb]; exact S.zf b u e
  zt := S.zt
  len := S.len
  sl := fun i d k e => by
    obtain ⟨v, hv, w⟩ := S.sl i d k e
    refine ⟨v, hv, ?_⟩
    cases k with
    | sh => exact Rel.mono (le_upd nf) w
    | ow =>
      obtain ⟨b, r, w⟩ := w
      subst r
      have hb : b ≠ a := fun z => by subst z; exact fr i d _ e (by decide) hv
      exact ⟨b, rfl, by rw [upd_ne hb]; exact w.nf, w.nz, w.at_.move (le_upd nf) fun _ q => q⟩
    | pin =>
      obtain ⟨b, r, w⟩ := w
      subst r
      have hb : b ≠ a := fun z => by subst z; exact fr i d _ e (by decide) hv
      exact ⟨b, rfl, by rw [upd_ne hb]; exact w.nf, w.nz, w.at_.move (le_upd nf) fun _ q => q⟩
  ap := S.ap
  pn := S.pn
theorem RvR.rel (h : RvR K Z F H σ ρ v d false) : Rel K F v d := h
theorem RvR.share {fr : Bool} (S : SR K P Z F σ ρ H) (h : RvR K Z F H σ ρ v d fr) : ∃ F', Le F F' ∧ SR K P Z F' σ ρ H ∧ Rel K F' v d := by
  cases fr with
  | false => exact ⟨F, Evl.Ex.refl F, S, h⟩
  | true =>
    obtain ⟨a, rfl, w, q⟩ := h
    obtain ⟨o, ho⟩ := w.obj_at
    refine ⟨upd F a o, le_upd w.nf, S.freeze ho w.nf w.nz q, (w.at_.move (le_upd w.nf) fun _ z => z).rel fun o' e => ?_⟩
    rw [ho] at e; cases e; exact upd_same

/-! ## slots -/
def isPin : Option (Option (D × Kd)) → Bool
  | some (some (_, .pin)) => true
  | _ => false
theorem Free.set {i : Nat} {v : V} {d : D} {k : Kd} (fr : Free σ ρ a) (h : v ≠ .ref a ∨ k = .sh) : Free (σ.set i (some v)) (ρ.set i (some (d, k))) a := fun j e l hj hl q => by
  by_cases hij : i = j
  · subst hij
    rw [List.getElem?_set] at hj q
    simp only [if_true] at hj q
    split at hj
    · cases hj
      split at q
      · cases q
        rcases h with h | h
        · exact h rfl
        · exact hl h
      · cases q
    · cases hj
  · rw [List.getElem?_set_ne hij] at hj q
    exact fr j e l hj hl q
theorem SR.store {b : Bool} {i : Nat} (S : SR K P Z F σ ρ H) (h : RvR K Z F H σ ρ v d b) (np : isPin ρ[i]? = false) : SR K P Z F (σ.set i (some v)) (ρ.set i (some (d, if b then .ow else .sh))) H where
  fh := S.fh
  zh := S.zh
  zf := S.zf
  zt := S.zt
  len := by rw [List.length_set, List.length_set]; exact S.len
  sl := fun j e k hj => by
    by_cases hij : i = j
    · subst hij
      rw [List.getElem?_set] at hj ⊢
      simp only [if_true] at hj ⊢
      split at hj
      · rename_i hl
        cases hj
        rw [if_pos (by rw [S.len]; exact hl)]
        refine ⟨v, rfl, ?_⟩
        cases b with
        | false => exact h
        | true => obtain ⟨a, r, w, _⟩ := h; exact ⟨a, r, w⟩
      · cases hj
    · rw [List.getElem?_set_ne hij] at hj ⊢
      exact S.sl j e k hj
  ap := fun j l e e' k k' a hjl hj hl hk hk' qj ql => by
    by_cases hij : i = j
    · subst hij
      rw [List.getElem?_set_ne hjl] at hl ql
      rw [List.getElem?_set] at hj qj
      simp only [if_true] at hj qj
      split at hj
      · cases hj
        split at qj
        · cases qj
          cases b with
          | false => exact hk rfl
          | true => obtain ⟨a', r, _, fr⟩ := h; cases r; exact fr l e' k' hl hk' ql
        · cases qj
      · cases hj
    · rw [List.getElem?_set_ne hij] at hj qj
      by_cases hil : i = l
      · subst hil
        rw [List.getElem?_set] at hl ql
        simp only [if_true] at hl ql
        split at hl
        · cases hl
          split at ql
          · cases ql
            cases b with
            | false => exact hk' rfl
            | true => obtain ⟨a', r, _, fr⟩ := h; cases r; exact fr j e k hj hk qj
          · cases ql
        · cases hl
      · rw [List.getElem?_set_ne hil] at hl ql
        exact S.ap j l e e' k k' a hjl hj hl hk hk' qj ql
  pn := fun j e hj => by
    by_cases hij : i = j
    · subst hij
      rw [List.getElem?_set] at hj
      simp only [if_true] at hj
      split at hj
      · cases b <;> cases hj
      · cases hj
    · rw [List.getElem?_set_ne hij] at hj ⊢
      exact S.pn j e hj
theorem SR.put {k : Kd} {e : D} {o' : HO} (S : SR K P Z F σ ρ H) (hi : ρ[i]? = some (some (d, k))) (hk : k ≠ .sh) (hv : σ[i]? = some (some (.ref a))) (new : OwnO K F (upd H a o') a e) : SR K P Z F σ (ρ.set i (some (e, k))) (upd H a o') where
  fh := fun b u q => by
    obtain ⟨v, hv', w⟩ := S.sl i d k hi
    rw [hv] at hv'; cases hv'
    have w' : Own K Z F H a d := by
      cases k with
      | sh => exact absurd rfl hk
      | ow => obtain ⟨b, r, w⟩ := w; cases r; exact w
      | pin => obtain ⟨b, r, w⟩ := w; cases r; exact w
    rw [upd_ne (ne_of_none q w'.nf)]; exact S.fh b u q
  zh := by
    obtain ⟨v, hv', w⟩ := S.sl i d k hi
    rw [hv] at hv'; cases hv'
    have w' : Own K Z F H a d := by
      cases k with
      | sh => exact absurd rfl hk
      | ow => obtain ⟨b, r, w⟩ := w; cases r; exact w
      | pin => obtain ⟨b, r, w⟩ := w; cases r; exact w
    exact S.zh.put w'.nz fun w hw => (w'.at_.kind hw).2
  zf := S.zf
  zt := S.zt
  len := by rw [List.length_set]; exact S.len
  sl := fun j e' l hj => by
    by_cases hij : i = j
    · subst hij
      rw [List.getElem?_set] at hj
      simp only [if_true] at hj
      split at hj
      · cases hj
        obtain ⟨v, hv', w⟩ := S.sl i d k hi
        rw [hv] at hv'; cases hv'
        refine ⟨.ref a, hv, ?_⟩
        cases k with
        | sh => exact absurd rfl hk
        | ow => obtain ⟨b, r, w⟩ := w; cases r; exact ⟨a, rfl, w.nf, w.nz, new⟩
        | pin => obtain ⟨b, r, w⟩ := w; cases r; exact ⟨a, rfl, w.nf, w.nz, new⟩
      · cases hj
    · rw [List.getElem?_set_ne hij] at hj
      obtain ⟨v, hv', w⟩ := S.sl j e' l hj
      refine ⟨v, hv', ?_⟩
      cases l with
      | sh => exact w
      | ow =>
        obtain ⟨b, r, w⟩ := w; subst r
        have hb : b ≠ a := fun z => by subst z; exact S.ap i j d e' k _ b hij hi hj hk (by decide) hv hv'
        exact ⟨b, rfl, w.nf, w.nz, w.at_.move (Evl.Ex.refl F) fun o q => by rw [upd_ne hb]; exact q⟩
      | pin =>
        obtain ⟨b, r, w⟩ := w; subst r
        have hb : b ≠ a := fun z => by subst z; exact S.ap i j d e' k _ b hij hi hj hk (by decide) hv hv'
        exact ⟨b, rfl, w.nf, w.nz, w.at_.move (Evl.Ex.refl F) fun o q => by rw [upd_ne hb]; exact q⟩
  ap := fun j l e1 e2 k1 k2 b hjl hj hl hk1 hk2 qj ql => by
    have back : ∀ m e3 k3, (ρ.set i (some (e, k)))[m]? = some (some (e3, k3)) → ∃ e4, ρ[m]? = some (some (e4, k3)) := fun m e3 k3 hm => by
      by_cases him : i = m
      · subst him
        rw [List.getElem?_set] at hm
        simp only [if_true] at hm
        split at hm
        · cases hm; exact ⟨d, hi⟩
        · cases hm
      · rw [List.getElem?_set_ne him] at hm; exact ⟨_, hm⟩
    obtain ⟨f1, g1⟩ := back j e1 k1 hj
    obtain ⟨f2, g2⟩ := back l e2 k2 hl
    exact S.ap j l f1 f2 k1 k2 b hjl g1 g2 hk1 hk2 qj ql
  pn := fun j e' hj => by
    by_cases hij : i = j
    · subst hij
      rw [List.getElem?_set] at hj
      simp only [if_true] at hj
      split at hj
      · cases hj; exact S.pn i d hi
      · cases hj
    · rw [List.getElem?_set_ne hij] at hj; exact S.pn j e' hj
theorem SR.yield (S : SR K P Z F σ ρ H) (hi : ρ[i]? = some (some (d, .ow))) : ∃ v F', σ[i]? = some (some v) ∧ Le F F' ∧ SR K P Z F' σ (ρ.set i (some (d, .sh))) H ∧ Rel K F' v d := by
  obtain ⟨v, hv, a, rfl, w⟩ := S.sl i d .ow hi
  obtain ⟨o, ho⟩ := w.obj_at
  have r : Rel K (upd F a o) (.ref a) d := (w.at_.move (le_upd w.nf) fun _ z => z).rel fun o' e => by rw [ho] at e; cases e; exact upd_same
  refine ⟨_, upd F a o, hv, le_upd w.nf, ⟨fun b u q => ?_, S.zh, fun b u q => ?_, S.zt, by rw [List.length_set]; exact S.len, fun j e l hj => ?_, fun j l e1 e2 k1 k2 b hjl hj hl hk1 hk2 qj ql => ?_, fun j e hj => ?_⟩, r⟩
  · by_cases hb : b = a
    · subst hb; rw [upd_same] at q; rw [ho]; exact q
    · rw [upd_ne hb] at q; exact S.fh b u q
  · rw [upd_ne (ne_of_none q w.nz)]; exact S.zf b u q
  · by_cases hij : i = j
    · subst hij
      rw [List.getElem?_set] at hj
      simp only [if_true] at hj
      split at hj
      · cases hj; exact ⟨_, hv, r⟩
      · cases hj
    · rw [List.getElem?_set_ne hij] at hj
      obtain ⟨v', hv', w'⟩ := S.sl j e l hj
      refine ⟨v', hv', ?_⟩
      cases l with
      | sh => exact Rel.mono (le_upd w.nf) w'
      | ow =>
        obtain ⟨b, r, w'⟩ := w'; subst r
        have hb : b ≠ a := fun z => by subst z; exact S.ap i j d e _ _ b hij hi hj (by decide) (by decide) hv hv'
        exact ⟨b, rfl, by rw [upd_ne hb]; exact w'.nf, w'.nz, w'.at_.move (le_upd w.nf) fun _ q => q⟩
      | pin =>
        obtain ⟨b, r, w'⟩ := w'; subst r
        have hb : b ≠ a := fun z => by subst z; exact S.ap i j d e _ _ b hij hi hj (by decide) (by decide) hv hv'
        exact ⟨b, rfl, by rw [upd_ne hb]; exact w'.nf, w'.nz, w'.at_.move (le_upd w.nf) fun _ q => q⟩
  · have back : ∀ m e3 k3, k3 ≠ Kd.sh → (ρ.set i (some (d, .sh)))[m]? = some (some (e3, k3)) → ρ[m]? = some (some (e3, k3)) := fun m e3 k3 n hm => by
      by_cases him : i = m
      · subst him
        rw [List.getElem?_set] at hm
        simp only [if_true] at hm
        split at hm
        · cases hm; exact absurd rfl n
        · cases hm
      · rw [List.getElem?_set_ne him] at hm; exact hm
    exact S.ap j l e1 e2 k1 k2 b hjl (back j _ _ hk1 hj) (back l _ _ hk2 hl) hk1 hk2 qj ql
  · by_cases hij : i = j
    · subst hij
      rw [List.getElem?_set] at hj
      simp only [if_true] at hj
      split at hj <;> cases hj
    · rw [List.getElem?_set_ne hij] at hj; exact S.pn j e hj
end
end Nu
namespace Nu
open PySem PySem.Spec PyProof.Rows L2
variable [WorldI]

/-! ## results and readings -/
inductive R (α : Type) where
  | ok (a : α) (ρ : Rho)
  | exc (c : Str) (fs : List (Str × D)) (ρ : Rho)
  | err
def R.bind {α β : Type} (r : R α) (g : α → Rho → R β) : R β :=
  match r with
  | .ok a ρ => g a ρ
  | .exc c fs ρ => .exc c fs ρ
  | .err => .err
@[simp] theorem R.bind_ok {α β : Type} (a : α) (ρ : Rho) (g : α → Rho → R β) : (R.ok a ρ).bind g = g a ρ := rfl
@[simp] theorem R.bind_exc {α β : Type} (c : Str) (fs : List (Str × D)) (ρ : Rho) (g : α → Rho → R β) : (R.exc c fs ρ : R α).bind g = .exc c fs ρ := rfl
@[simp] theorem R.bind_err {α β : Type} (g : α → Rho → R β) : (R.err : R α).bind g = .err := rfl
def R.of {α : Type} (o : Option α) (ρ : Rho) : R α :=
  match o with
  | some a => .ok a ρ
  | none => .err
@[simp] theorem R.of_some {α : Type} (a : α) (ρ : Rho) : R.of (some a) ρ = .ok a ρ := rfl
@[simp] theorem R.of_none {α : Type} (ρ : Rho) : (R.of none ρ : R α) = .err := rfl
inductive Opd where
  | val (d : D)
  | var (i : Nat)
inductive Ss where
  | nx (ρ : Rho) | rt (d : D) (fr : Bool) (ρ : Rho) | bk (ρ : Rho) | ct (ρ : Rho) | exc (c : Str) (fs : List (Str × D)) (ρ : Rho) | err

structure Cq where
  K : PySem.W.Frag
  P : Nat → Addr
  W : WX
abbrev RelT (β α : Type) := Hp → Hp → Hp → St → Rho → β → α → Prop
variable {C : Cq} {Z Z' F F' H H' : Hp} {σ σ' : St} {ρ ρ' : Rho}
def At {α β : Type} (C : Cq) (rel : RelT β α) (Z F : Hp) (σ : St) (Q : β → Hp → Prop) : R α → Prop
  | .ok a ρ' => ∀ F' H' v, Le F F' → SR C.K C.P Z F' σ ρ' H' → rel Z F' H' σ ρ' v a → Q v H'
  | .exc c fs ρ' => ∀ F' H' dd vs, Le F F' → SR C.K C.P Z F' σ ρ' H' → F' dd = some (.xd vs) → RelF C.K F' vs fs → C.W (.ref (He.ga C.K c)) (some dd) σ H'
  | .err => False
theorem At.mono {α β : Type} {rel : RelT β α} {Q : β → Hp → Prop} {r : R α} (e : Le F F') (h : At C rel Z F σ Q r) : At C rel Z F' σ Q r := by
  cases r with
  | ok a ρ' => exact fun F2 H2 v l S q => h F2 H2 v (e.trans l) S q
  | exc c fs ρ' => exact fun F2 H2 dd vs l S q => h F2 H2 dd vs (e.trans l) S q
  | err => exact h
def tG {α β : Type} (C : Cq) (rel : RelT β α) (f : Rho → R α) : St → Hp → (β → Hp → Prop) → Prop :=
  fun σ H Q => ∃ Z F ρ, SR C.K C.P Z F σ ρ H ∧ At C rel Z F σ Q (f ρ)
theorem tG.step {α β γ δ : Type} {rel : RelT β α} {rel2 : RelT δ γ} {f : Rho → R α} {g : α → Rho → R γ} {Q : δ → Hp → Prop} {Q1 : β → Hp → Prop} (S : SR C.K C.P Z F σ ρ H) (h : At C rel2 Z F σ Q ((f ρ).bind g))
    (k : ∀ a ρ1 F1 H1 v, Le F F1 → SR C.K C.P Z F1 σ ρ1 H1 → rel Z F1 H1 σ ρ1 v a → At C rel2 Z F1 σ Q (g a ρ1) → Q1 v H1) : tG C rel f σ H Q1 := by
  refine ⟨Z, F, ρ, S, ?_⟩
  cases hf : f ρ with
  | ok a ρ1 =>
    rw [hf] at h
    exact fun F1 H1 v l S1 r => k a ρ1 F1 H1 v l S1 r (At.mono l h)
  | exc c fs ρ1 =>
    rw [hf] at h
    exact h
  | err =>
    rw [hf] at h
    exact h.elim
theorem At.done {α β : Type} {rel : RelT β α} {Q : β → Hp → Prop} {a : α} {v : β} (h : At C rel Z F σ Q (.ok a ρ)) (l : Le F F') (S : SR C.K C.P Z F' σ ρ H') (r : rel Z F' H' σ ρ v a) : Q v H' := h F' H' v l S r

/-! ### the relations -/
def relE (K : PySem.W.Frag) : RelT V (D × Bool) := fun Z F H σ ρ v a => RvR K Z F H σ ρ v a.1 a.2
def relO (K : PySem.W.Frag) : RelT V Opd := fun _ F _ σ _ v o => match o with
  | .val d => Rel K F v d
  | .var i => σ[i]? = some (some v)
def relB : RelT Bool Bool := fun _ _ _ _ _ v a => v = a
inductive Ops (K : PySem.W.Frag) (F : Hp) (σ : St) : List V → List Opd → Prop
  | nil : Ops K F σ [] []
  | cons {v : V} {vs : List V} {o : Opd} {os : List Opd} : (match o with | .val d => Rel K F v d | .var i => σ[i]? = some (some v)) → Ops K F σ vs os → Ops K F σ (v :: vs) (o :: os)
def relA (K : PySem.W.Frag) : RelT (List V) (List Opd) := fun _ F _ σ _ v o => Ops K F σ v o
def tE (C : Cq) (f : Rho → R (D × Bool)) : TE := tG C (relE C.K) f
def tO (C : Cq) (f : Rho → R Opd) : TE := tG C (relO C.K) f
def tT (C : Cq) (f : Rho → R Bool) : TT := tG C relB f
def tA (C : Cq) (f : Rho → R (List Opd)) : TA := tG C (relA C.K) f
theorem relO.mono {v : V} {o : Opd} {K : PySem.W.Frag} (l : Le F F') (h : relO K Z F H σ ρ v o) : relO K Z F' H' σ ρ' v o := by
  cases o with
  | val d => exact Rel.mono l h
  | var i => exact h
theorem Ops.mono {K : PySem.W.Frag} (l : Le F F') : ∀ {vs : List V} {os : List Opd}, Ops K F σ vs os → Ops K F' σ vs os
  | _, _, .nil => .nil
  | _, _, .cons (o := o) h r => .cons (by cases o with | val d => exact Rel.mono l h | var i => exact h) (Ops.mono l r)

/-! ### looking at operands -/
def peek (ρ : Rho) : Opd → Option D
  | .val d => some d
  | .var i => match ρ[i]? with
    | some (some (d, _)) => some d
    | _ => none
def Rl (K : PySem.W.Frag) (F H : Hp) (v : V) (d : D) : Prop := Rel K F v d ∨ ∃ a, v = .ref a ∧ OwnO K F H a d
theorem peek_rl {K : PySem.W.Frag} {P : Nat → Addr} {v : V} {o : Opd} {d : D} (S : SR K P Z F σ ρ H) (r : relO K Z F H σ ρ v o) (h : peek ρ o = some d) : Rl K F H v d := by
  cases o with
  | val d' => cases h; exact .inl r
  | var i =>
    simp only [peek] at h
    cases e : ρ[i]? with
    | none => rw [e] at h; cases h
    | some s =>
      cases s with
      | none => rw [e] at h; cases h
      | some p =>
        obtain ⟨d', k⟩ := p
        rw [e] at h; cases h
        obtain ⟨v', hv', w⟩ := S.sl i _ _ e
        rw [show σ[i]? = some (some v) from r] at hv'; cases hv'
        cases k with
        | sh => exact .inl w
        | ow => obtain ⟨a, q, w⟩ := w; exact .inr ⟨a, q, w.at_⟩
        | pin => obtain ⟨a, q, w⟩ := w; exact .inr ⟨a, q, w.at_⟩
section
variable {K : PySem.W.Frag} {v : V}
theorem sqT_h {a : Addr} {vs : List V} (l : Le F H) (h : SqT K F a vs) : SqT K H a vs := Evl.ex_t l h
theorem sqL_h {a : Addr} {vs : List V} (l : Le F H) (h : SqL K F a vs) : SqL K H a vs := Evl.ex_l l h
theorem Rl.lst {ds : List D} (l : Le F H) (h : Rl K F H v (.lst ds)) : ∃ a vs, v = .ref a ∧ H a = some (.lst vs) ∧ Rels K F vs ds := by
  rcases h with h | ⟨a, rfl, vs, e, r⟩
  · cases h with | lst q r => exact ⟨_, _, rfl, l _ _ q, r⟩
  · exact ⟨a, vs, rfl, e, r⟩
theorem Rl.scr {ds : List D} (l : Le F H) (h : Rl K F H v (.scr ds)) : ∃ a vs, v = .ref a ∧ SqL K H a vs ∧ Rels K F vs ds := by
  rcases h with h | ⟨a, rfl, z⟩
  · cases h with | scr q r => exact ⟨_, _, rfl, sqL_h l q, r⟩
  · exact z.elim
theorem Rl.tup {ds : List D} (l : Le F H) (h : Rl K F H v (.tup ds)) : ∃ a vs, v = .ref a ∧ SqT K H a vs ∧ SqT K F a vs ∧ Rels K F vs ds := by
  rcases h with h | ⟨a, rfl, z⟩
  · cases h with | tup q r => exact ⟨_, _, rfl, sqT_h l q, q, r⟩
  · exact z.elim
theorem Rl.int {i : Int} (h : Rl K F H v (.int i)) : v = .int i := by
  rcases h with h | ⟨a, rfl, z⟩
  · cases h; rfl
  · exact z.elim
theorem Rl.bl {i : Bool} (h : Rl K F H v (.bl i)) : v = .bl i := by
  rcases h with h | ⟨a, rfl, z⟩
  · cases h; rfl
  · exact z.elim
theorem Rl.non (h : Rl K F H v .non) : v = .non := by
  rcases h with h | ⟨a, rfl, z⟩
  · cases h; rfl
  · exact z.elim
theorem Rl.str {x : List Cp} (h : Rl K F H v (.str x)) : v = .str (toStr x) := by
  rcases h with h | ⟨a, rfl, z⟩
  · cases h; rfl
  · exact z.elim
theorem Rl.ty {x : String} (h : Rl K F H v (.ty x)) : v = .ty x := by
  rcases h with h | ⟨a, rfl, z⟩
  · cases h; rfl
  · exact z.elim
theorem Rl.obj {c : Str} {fs : List (Str × D)} (l : Le F H) (h : Rl K F H v (.obj c fs)) : ∃ a dx vs, v = .ref a ∧ H a = some (.ins (He.ga K c) dx vs) ∧ RelF K F vs fs := by
  rcases h with h | ⟨a, rfl, dx, vs, e, r⟩
  · cases h with | obj q r => exact ⟨_, _, _, rfl, l _ _ q, r⟩
  · exact ⟨a, dx, vs, rfl, e, r⟩
end
def NewR (K : PySem.W.Frag) (H F' H' : Hp) (v : V) (d : D) : Bool → Prop
  | false => Rel K F' v d
  | true => ∃ a, v = .ref a ∧ H a = none ∧ F' a = none ∧ OwnO K F' H' a d
theorem NewR.rv {K : PySem.W.Frag} {P : Nat → Addr} {v : V} {d : D} {b : Bool} (S : SR K P Z F σ ρ H) (h : NewR K H F' H' v d b) : RvR K Z F' H' σ ρ v d b := by
  cases b with
  | false => exact h
  | true =>
    obtain ⟨a, rfl, n, nf, w⟩ := h
    refine ⟨a, rfl, ⟨nf, S.zh.none n, w⟩, fun i e k hi hk q => ?_⟩
    obtain ⟨v', hv', z⟩ := S.sl i e k hi
    rw [q] at hv'; cases hv'
    cases k with
    | sh => exact hk rfl
    | ow =>
      obtain ⟨b, r, z⟩ := z; cases r
      obtain ⟨o, ho⟩ := z.obj_at
      rw [n] at ho; cases ho
    | pin =>
      obtain ⟨b, r, z⟩ := z; cases r
      obtain ⟨o, ho⟩ := z.obj_at
      rw [n] at ho; cases ho

/-! ### names, constants -/
variable {X : Cx}
structure Fit (C : Cq) (X : Cx) : Prop where
  k : X.K = C.K
  nd : X.N.Nodup
  calm : X.calm = true
  tk : L2N.Takes X C.W
def sName (i : Nat) (ρ : Rho) : R (D × Bool) :=
  match ρ[i]? with
  | some (some (d, .sh)) => .ok (d, false) ρ
  | some (some (d, .ow)) => .ok (d, false) (ρ.set i (some (d, .sh)))
  | _ => .err
def oName (i : Nat) (ρ : Rho) : R Opd :=
  match ρ[i]? with
  | some (some (d, .sh)) => .ok (.val d) ρ
  | some (some _) => .ok (.var i) ρ
  | _ => .err
theorem PE.imp {X : Cx} {e : Expr} {t t' : TE} (h : PE X e t) (w : ∀ σ H Q, t' σ H Q → t σ H Q) : PE X e t' := ⟨fun pins s σ H Q I z => h.run pins s σ H Q I (w σ H Q z)⟩
theorem PT.imp {X : Cx} {e : Expr} {t t' : TT} (h : PT X e t) (w : ∀ σ H Q, t' σ H Q → t σ H Q) : PT X e t' := ⟨fun pins s σ H Q I z => h.run pins s σ H Q I (w σ H Q z)⟩
theorem PW.imp {X : Cx} {e : Expr} {t t' : TT} (h : PW X e t) (w : ∀ σ H Q, t' σ H Q → t σ H Q) : PW X e t' := ⟨fun wh pins s σ H Q I z => h.run wh pins s σ H Q I (w σ H Q z)⟩
theorem PA.imp {X : Cx} {e : List Expr} {t t' : TA} (h : PA X e t) (w : ∀ σ H Q, t' σ H Q → t σ H Q) : PA X e t' := ⟨fun pos pins s σ H Q I z => h.run pos pins s σ H Q I (w σ H Q z)⟩
theorem PS.imp {X : Cx} {e : Stmt} {t t' : TS} (h : PS X e t) (w : ∀ D σ H, t' D σ H → t D σ H) : PS X e t' := ⟨fun pins s σ H D I z => h.run pins s σ H D I (w D σ H z)⟩
theorem PSs.imp {X : Cx} {e : List Stmt} {t t' : TS} (h : PSs X e t) (w : ∀ D σ H, t' D σ H → t D σ H) : PSs X e t' := ⟨fun pins s σ H D I z => h.run pins s σ H D I (w D σ H z)⟩
theorem de_name {i : Nat} {e : Expr} (h : PE X e (tVar i)) : PE X e (tE C (sName i)) := PE.imp h fun σ H Q ⟨Z, F, ρ, S, m⟩ => by
  unfold sName at m
  cases q : ρ[i]? with
  | none => rw [q] at m; exact m.elim
  | some s =>
    cases s with
    | none => rw [q] at m; exact m.elim
    | some p =>
      obtain ⟨d, k⟩ := p
      rw [q] at m
      cases k with
      | sh =>
        obtain ⟨v, hv, w⟩ := S.sl i d _ q
        exact ⟨v, hv, m F H v (Evl.Ex.refl F) S w⟩
      | ow =>
        obtain ⟨v, F', hv, l, S', w⟩ := S.yield q
        exact ⟨v, hv, m F' H v l S' w⟩
      | pin => exact m.elim
theorem do_name {i : Nat} {e : Expr} (h : PE X e (tVar i)) : PE X e (tO C (oName i)) := PE.imp h fun σ H Q ⟨Z, F, ρ, S, m⟩ => by
  unfold oName at m
  cases q : ρ[i]? with
  | none => rw [q] at m; exact m.elim
  | some s =>
    cases s with
    | none => rw [q] at m; exact m.elim
    | some p =>
      obtain ⟨d, k⟩ := p
      rw [q] at m
      obtain ⟨v, hv, w⟩ := S.sl i d _ q
      cases k with
      | sh => exact ⟨v, hv, m F H v (Evl.Ex.refl F) S w⟩
      | ow => exact ⟨v, hv, m F H v (Evl.Ex.refl F) S hv⟩
      | pin => exact ⟨v, hv, m F H v (Evl.Ex.refl F) S hv⟩
def sOpd (f : Rho → R (D × Bool)) (ρ : Rho) : R Opd := (f ρ).bind fun a ρ1 => .ok (.val a.1) ρ1
theorem do_of {e : Expr} {f : Rho → R (D × Bool)} (h : PE X e (tE C f)) : PE X e (tO C (sOpd f)) := PE.imp h fun σ H Q ⟨Z, F, ρ, S, m⟩ => by
  refine tG.step S m fun a ρ1 F1 H1 v l S1 r m1 => ?_
  obtain ⟨F2, l2, S2, w⟩ := RvR.share S1 r
  exact m1 F2 H1 v l2 S2 w
def sC (d : D) (ρ : Rho) : R (D × Bool) := .ok (d, false) ρ
theorem de_c {e : Expr} {v : V} {d : D} (h : PE X e (tC v)) (r : ∀ F, Rel C.K F v d) : PE X e (tE C (sC d)) := PE.imp h fun σ H Q ⟨Z, F, ρ, S, m⟩ => m F H v (Evl.Ex.refl F) S (r F)

/-! ### operations on two operands, by values -/
def Op2 (K : PySem.W.Frag) (r : R2) (g : D → D → Option (D × Bool)) : Prop :=
  ∀ (F H : Hp) (x y : V) (dx dy d : D) (fr : Bool) (Q : VK), Le F H → Rl K F H x dx → Rl K F H y dy → g dx dy = some (d, fr) →
    (∀ F' H' v, Grow F H F' H' → NewR K H F' H' v d fr → Q v H') → r x y H Q
def sOp2 (g : D → D → Option (D × Bool)) (f1 f2 : Rho → R Opd) (ρ : Rho) : R (D × Bool) :=
  (f1 ρ).bind fun o1 ρ1 => (f2 ρ1).bind fun o2 ρ2 => R.of ((peek ρ2 o1).bind fun d1 => (peek ρ2 o2).bind fun d2 => g d1 d2) ρ2
theorem tOp_of {r : R2} {g : D → D → Option (D × Bool)} {f1 f2 : Rho → R Opd} (ho : Op2 C.K r g) (σ : St) (H : Hp) (Q : VK) (h : tE C (sOp2 g f1 f2) σ H Q) : tOp r (tO C f1) (tO C f2) σ H Q := by
  obtain ⟨Z, F, ρ, S, m⟩ := h
  refine tG.step S m fun o1 ρ1 F1 H1 v1 l1 S1 r1 m1 => ?_
  refine tG.step S1 m1 fun o2 ρ2 F2 H2 v2 l2 S2 r2 m2 => ?_
  cases p1 : peek ρ2 o1 with
  | none => rw [p1] at m2; exact m2.elim
  | some d1 =>
    cases p2 : peek ρ2 o2 with
    | none => rw [p1, p2] at m2; exact m2.elim
    | some d2 =>
      rw [p1, p2] at m2
      cases e : g d1 d2 with
      | none =>
        have m3 : At C (relE C.K) Z F2 σ Q (R.of (g d1 d2) ρ2) := m2
        rw [e] at m3; exact m3.elim
      | some p =>
        obtain ⟨d, fr⟩ := p
        have m3 : At C (relE C.K) Z F2 σ Q (R.of (g d1 d2) ρ2) := m2
        rw [e] at m3
        exact ho F2 H2 v1 v2 d1 d2 d fr Q S2.fh (peek_rl S2 (relO.mono l2 r1) p1) (peek_rl S2 r2 p2) e fun F' H' v gr nw => m3 F' H' v gr.ff (S2.grow gr) (NewR.rv S2 nw)
theorem de_op2 {r : R2} {g : D → D → Option (D × Bool)} {f1 f2 : Rho → R Opd} {op : Operator} {a b : Expr} {pos : Pos} (ho : OpR X (binaryOp op) r) (h2 : Op2 C.K r g) (ha : PE X a (tO C f1)) (hb : PE X b (tO C f2)) : PE X (.BinOp a op b pos) (tE C (sOp2 g f1 f2)) :=
  PE.imp (pe_op ho ha hb) (tOp_of h2)
theorem de_cmp {r : R2} {g : D → D → Option (D × Bool)} {f1 f2 : Rho → R Opd} {op : CmpOp} {a b : Expr} {pos : Pos} (ho : OpR X (compareOp op) r) (h2 : Op2 C.K r g) (ha : PE X a (tO C f1)) (hb : PE X b (tO C f2)) (hm : behindInMarks op b = false) : PE X (.Compare a [op] [b] pos) (tE C (sOp2 g f1 f2)) :=
  PE.imp (pe_cmpR ho ha hb hm) (tOp_of h2)
end Nu
namespace Nu
open PySem PySem.Spec PyProof.Rows L2
variable [WorldI]
variable {C : Cq} {Z Z' F F' H H' : Hp} {σ σ' : St} {ρ ρ' : Rho} {X : Cx}

/-! ## tests -/
def sTest (f : Rho → R (D × Bool)) (ρ : Rho) : R Bool := (f ρ).bind fun a ρ1 => match a.1 with
  | .bl b => .ok b ρ1
  | _ => .err
theorem dt_val {e : Expr} {f : Rho → R (D × Bool)} (h : PE X e (tE C f)) (he : ∀ whole, isTrue e X.env whole = (do let v ← whole; standAt e.pos; holding [v] (truthy v)) := by intro _; rfl) : PT X e (tT C (sTest f)) :=
  PT.imp (pt_val h he) fun σ H Q ⟨Z, F, ρ, S, m⟩ => tG.step S m fun a ρ1 F1 H1 v l S1 r m1 => by
    obtain ⟨d, fr⟩ := a
    cases d with
    | bl b =>
      cases fr with
      | false =>
        cases (show Rel C.K F1 v (.bl b) from r)
        exact ⟨b, rfl, m1 F1 H1 b (Evl.Ex.refl F1) S1 rfl⟩
      | true => obtain ⟨a, _, w, _⟩ := r; exact w.at_.elim
    | _ => exact m1.elim
theorem dt_cmp {r : R2} {g : D → D → Option (D × Bool)} {f1 f2 : Rho → R Opd} {op : CmpOp} {a b : Expr} {pos : Pos} (ho : OpR X (compareOp op) r) (h2 : Op2 C.K r g) (ha : PE X a (tO C f1)) (hb : PE X b (tO C f2)) (hm : behindInMarks op b = false) : PT X (.Compare a [op] [b] pos) (tT C (sTest (sOp2 g f1 f2))) :=
  PT.imp (pt_cmpR ho ha hb hm) fun σ H Q ⟨Z, F, ρ, S, m⟩ => tOp_of h2 σ H _ (tG.step S m fun a ρ1 F1 H1 v l S1 r m1 => by
    obtain ⟨d, fr⟩ := a
    cases d with
    | bl b =>
      cases fr with
      | false =>
        cases (show Rel C.K F1 v (.bl b) from r)
        exact ⟨b, rfl, m1 F1 H1 b (Evl.Ex.refl F1) S1 rfl⟩
      | true => obtain ⟨a, _, w, _⟩ := r; exact w.at_.elim
    | _ => exact m1.elim)
def sNot (f : Rho → R Bool) (ρ : Rho) : R Bool := (f ρ).bind fun b ρ1 => .ok (!b) ρ1
theorem dt_not {a : Expr} {f : Rho → R Bool} {pos : Pos} (h : PT X a (tT C f)) : PT X (.UnaryOp .Not a pos) (tT C (sNot f)) :=
  PT.imp (pt_not h) fun σ H Q ⟨Z, F, ρ, S, m⟩ => tG.step S m fun a ρ1 F1 H1 v l S1 r m1 => by
    cases (show v = a from r)
    exact m1 F1 H1 (!a) (Evl.Ex.refl F1) S1 rfl
def sAnd (f g : Rho → R Bool) (ρ : Rho) : R Bool := (f ρ).bind fun b ρ1 => if b = true then g ρ1 else .ok false ρ1
def sOr (f g : Rho → R Bool) (ρ : Rho) : R Bool := (f ρ).bind fun b ρ1 => if b = true then .ok true ρ1 else g ρ1
theorem dw_or1 {a : Expr} {f : Rho → R Bool} {pos : Pos} (h : PT X a (tT C f)) : PW X (.BoolOp .Or [a] pos) (tT C f) := pw_or1 h
theorem dw_or {a b : Expr} {rest : List Expr} {f g : Rho → R Bool} {pos : Pos} (h : PT X a (tT C f)) (h2 : PW X (.BoolOp .Or (b :: rest) pos) (tT C g)) : PW X (.BoolOp .Or (a :: b :: rest) pos) (tT C (sOr f g)) :=
  PW.imp (pw_or h h2) fun σ H Q ⟨Z, F, ρ, S, m⟩ => tG.step S m fun a ρ1 F1 H1 v l S1 r m1 => by
    cases (show v = a from r)
    cases a with
    | false => exact ⟨Z, F1, ρ1, S1, m1⟩
    | true => exact m1 F1 H1 true (Evl.Ex.refl F1) S1 rfl
def sAndV (f g : Rho → R (D × Bool)) (ρ : Rho) : R (D × Bool) := (f ρ).bind fun a ρ1 => match a.1 with
  | .bl true => g ρ1
  | .bl false => .ok (.bl false, false) ρ1
  | _ => .err
def sOrV (f g : Rho → R (D × Bool)) (ρ : Rho) : R (D × Bool) := (f ρ).bind fun a ρ1 => match a.1 with
  | .bl true => .ok (.bl true, false) ρ1
  | .bl false => g ρ1
  | _ => .err
def sNotV (f : Rho → R (D × Bool)) (ρ : Rho) : R (D × Bool) := (f ρ).bind fun a ρ1 => match a.1 with
  | .bl b => .ok (.bl !b, false) ρ1
  | _ => .err
theorem rv_bl {K : PySem.W.Frag} {v : V} {b fr : Bool} (r : relE K Z F H σ ρ v (.bl b, fr)) : v = .bl b := by
  cases fr with
  | false => cases (show Rel K F v (.bl b) from r); rfl
  | true => obtain ⟨a, _, w, _⟩ := r; exact w.at_.elim
theorem rv_int {K : PySem.W.Frag} {v : V} {b : Int} {fr : Bool} (r : relE K Z F H σ ρ v (.int b, fr)) : v = .int b := by
  cases fr with
  | false => cases (show Rel K F v (.int b) from r); rfl
  | true => obtain ⟨a, _, w, _⟩ := r; exact w.at_.elim
theorem de_one {op} {a : Expr} {f : Rho → R (D × Bool)} {pos : Pos} (h : PE X a (tE C f)) : PE X (.BoolOp op [a] pos) (tE C f) := pe_one h
theorem de_and {a b : Expr} {rest : List Expr} {f g : Rho → R (D × Bool)} {pos : Pos} (h : PE X a (tE C f)) (h2 : PE X (.BoolOp .And (b :: rest) pos) (tE C g)) : PE X (.BoolOp .And (a :: b :: rest) pos) (tE C (sAndV f g)) :=
  PE.imp (pe_and h h2) fun σ H Q ⟨Z, F, ρ, S, m⟩ => tG.step S m fun a ρ1 F1 H1 v l S1 r m1 => by
    obtain ⟨d, fr⟩ := a
    cases d with
    | bl b =>
      refine ⟨b, rv_bl r, ?_⟩
      cases b with
      | true => exact ⟨Z, F1, ρ1, S1, m1⟩
      | false => exact m1 F1 H1 _ (Evl.Ex.refl F1) S1 (Rel.bl false)
    | _ => exact m1.elim
def sNeg (f : Rho → R (D × Bool)) (ρ : Rho) : R (D × Bool) := (f ρ).bind fun a ρ1 => match a.1 with
  | .int i => .ok (.int (-i), false) ρ1
  | _ => .err
theorem de_neg {a : Expr} {f : Rho → R (D × Bool)} {pos : Pos} (h : PE X a (tE C f)) : PE X (.UnaryOp .USub a pos) (tE C (sNeg f)) :=
  PE.imp (pe_un un_neg h) fun σ H Q ⟨Z, F, ρ, S, m⟩ => tG.step S m fun a ρ1 F1 H1 v l S1 r m1 => by
    obtain ⟨d, fr⟩ := a
    cases d with
    | int i => exact ⟨i, rv_int r, m1 F1 H1 _ (Evl.Ex.refl F1) S1 (Rel.int (-i))⟩
    | _ => exact m1.elim
def sIf {α : Type} (c : Rho → R Bool) (f g : Rho → R α) (ρ : Rho) : R α := (c ρ).bind fun b ρ1 => if b = true then f ρ1 else g ρ1
theorem de_ifE {c a b : Expr} {fc : Rho → R Bool} {f g : Rho → R (D × Bool)} {pos : Pos} (hc : PT X c (tT C fc)) (ha : PE X a (tE C f)) (hb : PE X b (tE C g)) : PE X (.IfExp c a b pos) (tE C (sIf fc f g)) :=
  PE.imp (pe_ifExp hc ha hb) fun σ H Q ⟨Z, F, ρ, S, m⟩ => tG.step S m fun a ρ1 F1 H1 v l S1 r m1 => by
    cases (show v = a from r)
    cases a with
    | true => exact ⟨Z, F1, ρ1, S1, m1⟩
    | false => exact ⟨Z, F1, ρ1, S1, m1⟩
/-! ### chains of two comparisons -/
def sChain (g1 g2 : D → D → Option (D × Bool)) (f1 f2 f3 : Rho → R Opd) (ρ : Rho) : R (D × Bool) :=
  (f1 ρ).bind fun o1 ρ1 => (f2 ρ1).bind fun o2 ρ2 => (R.of ((peek ρ2 o1).bind fun d1 => (peek ρ2 o2).bind fun d2 => g1 d1 d2) ρ2).bind fun a ρ3 => match a with
    | (.bl true, false) => (f3 ρ3).bind fun o3 ρ4 => R.of ((peek ρ4 o2).bind fun d2 => (peek ρ4 o3).bind fun d3 => g2 d2 d3) ρ4
    | (.bl false, false) => .ok (.bl false, false) ρ3
    | _ => .err
theorem op2_at {r : R2} {g : D → D → Option (D × Bool)} {o1 o2 : Opd} {v1 v2 : V} {Q : VK} {α : Type} (S : SR C.K C.P Z F σ ρ H) (ho : Op2 C.K r g) (r1 : relO C.K Z F H σ ρ v1 o1) (r2 : relO C.K Z F H σ ρ v2 o2) {p : D × Bool}
    (e : ((peek ρ o1).bind fun d1 => (peek ρ o2).bind fun d2 => g d1 d2) = some p) (k : ∀ F' H' v, Grow F H F' H' → NewR C.K H F' H' v p.1 p.2 → Q v H') : r v1 v2 H Q := by
  cases p1 : peek ρ o1 with
  | none => rw [p1] at e; cases e
  | some d1 =>
    cases p2 : peek ρ o2 with
    | none => rw [p1, p2] at e; cases e
    | some d2 =>
      rw [p1, p2] at e
      exact ho F H v1 v2 d1 d2 p.1 p.2 Q S.fh (peek_rl S r1 p1) (peek_rl S r2 p2) e k
theorem tChain_of {r r' : R2} {g1 g2 : D → D → Option (D × Bool)} {f1 f2 f3 : Rho → R Opd} (ho : Op2 C.K r g1) (ho' : Op2 C.K r' g2) (σ : St) (H : Hp) (Q : VK) (h : tE C (sChain g1 g2 f1 f2 f3) σ H Q) : tChain r r' (tO C f1) (tO C f2) (tO C f3) σ H Q := by
  obtain ⟨Z, F, ρ, S, m⟩ := h
  refine tG.step S m fun o1 ρ1 F1 H1 v1 l1 S1 r1 m1 => ?_
  refine tG.step S1 m1 fun o2 ρ2 F2 H2 v2 l2 S2 r2 m2 => ?_
  cases e : ((peek ρ2 o1).bind fun d1 => (peek ρ2 o2).bind fun d2 => g1 d1 d2) with
  | none => rw [e] at m2; exact m2.elim
  | some p =>
    rw [e] at m2
    refine op2_at (α := Unit) S2 ho (relO.mono l2 r1) r2 e fun F3 H3 v gr nw => ?_
    obtain ⟨d, fr⟩ := p
    have S3 := S2.grow gr
    cases d with
    | bl b =>
      cases fr with
      | true => cases b <;> exact m2.elim
      | false =>
        cases (show Rel C.K F3 v (.bl b) from nw)
        refine ⟨b, rfl, ?_⟩
        cases b with
        | false => exact (At.mono gr.ff m2) F3 H3 _ (Evl.Ex.refl F3) S3 (Rel.bl false)
        | true =>
          refine tG.step S3 (At.mono gr.ff m2) fun o3 ρ4 F4 H4 v3 l4 S4 r3 m4 => ?_
          cases e2 : ((peek ρ4 o2).bind fun d2 => (peek ρ4 o3).bind fun d3 => g2 d2 d3) with
          | none => rw [e2] at m4; exact m4.elim
          | some p =>
            rw [e2] at m4
            exact op2_at (α := Unit) S4 ho' (relO.mono (gr.ff.trans l4) r2) r3 e2 fun F' H' v gr nw => m4 F' H' v gr.ff (S4.grow gr) (NewR.rv S4 nw)
    | _ => exact m2.elim
theorem de_chain {r r' : R2} {g1 g2 : D → D → Option (D × Bool)} {f1 f2 f3 : Rho → R Opd} {op op' : CmpOp} {a b c : Expr} {pos : Pos} (ho : OpR X (compareOp op) r) (h1 : Op2 C.K r g1) (ho' : OpR X (compareOp op') r') (h2 : Op2 C.K r' g2) (ha : PE X a (tO C f1)) (hb : PE X b (tO C f2)) (hc : PE X c (tO C f3))
    (hm : lastMarks [op, op'] [b, c] = false := by with_unfolding_all rfl) : PE X (.Compare a [op, op'] [b, c] pos) (tE C (sChain g1 g2 f1 f2 f3)) := PE.imp (pe_chain ho ho' ha hb hc hm) (tChain_of h1 h2)
/-! ### subscripts -/
theorem de_ix {r : R2} {g : D → D → Option (D × Bool)} {f1 f2 : Rho → R Opd} {a b : Expr} {pos : Pos} (ho : IxR X r) (h2 : Op2 C.K r g) (ha : PE X a (tO C f1)) (hb : PE X b (tO C f2)) (hs : PlainIx b := by intro _ _; rfl) : PE X (.Subscript a b pos) (tE C (sOp2 g f1 f2)) :=
  PE.imp (pe_ix ho ha hb hs) (tOp_of h2)
def relP : RelT (Option Int) (Option Int) := fun _ _ _ _ _ v a => v = a
def tP (C : Cq) (f : Rho → R (Option Int)) : TO := tG C relP f
theorem PO.imp {X : Cx} {e : Option Expr} {t t' : TO} (h : PO X e t) (w : ∀ σ H Q, t' σ H Q → t σ H Q) : PO X e t' := ⟨fun pins s σ H Q I z => h.run pins s σ H Q I (w σ H Q z)⟩
def sNoP (ρ : Rho) : R (Option Int) := .ok none ρ
def sP (f : Rho → R (D × Bool)) (ρ : Rho) : R (Option Int) := (f ρ).bind fun a ρ1 => match a.1 with
  | .int i => .ok (some i) ρ1
  | _ => .err
theorem dp_none : PO X none (tP C sNoP) := PO.imp po_none fun σ H Q ⟨Z, F, ρ, S, m⟩ => m F H none (Evl.Ex.refl F) S rfl
theorem dp_some {e : Expr} {f : Rho → R (D × Bool)} (h : PE X e (tE C f)) : PO X (some e) (tP C (sP f)) :=
  PO.imp (po_some h) fun σ H Q ⟨Z, F, ρ, S, m⟩ => tG.step S m fun a ρ1 F1 H1 v l S1 r m1 => by
    obtain ⟨d, fr⟩ := a
    cases d with
    | int i => exact ⟨i, rv_int r, m1 F1 H1 _ (Evl.Ex.refl F1) S1 rfl⟩
    | _ => exact m1.elim
def OpSl (K : PySem.W.Frag) (r : V → Option Int → Option Int → Hp → VK → Prop) (g : D → Option Int → Option Int → Option (D × Bool)) : Prop :=
  ∀ (F H : Hp) (x : V) (dx d : D) (lo hi : Option Int) (fr : Bool) (Q : VK), Le F H → Rl K F H x dx → g dx lo hi = some (d, fr) → (∀ F' H' v, Grow F H F' H' → NewR K H F' H' v d fr → Q v H') → r x lo hi H Q
def sSl (g : D → Option Int → Option Int → Option (D × Bool)) (f : Rho → R Opd) (fl fh : Rho → R (Option Int)) (ρ : Rho) : R (D × Bool) :=
  (f ρ).bind fun o ρ1 => (fl ρ1).bind fun lo ρ2 => (fh ρ2).bind fun hi ρ3 => R.of ((peek ρ3 o).bind fun d => g d lo hi) ρ3
theorem de_slice {r : V → Option Int → Option Int → Hp → VK → Prop} {g : D → Option Int → Option Int → Option (D × Bool)} {e : Expr} {lo hi : Option Expr} {f : Rho → R Opd} {fl fh : Rho → R (Option Int)} {p2 pos : Pos} (hr : L2.SlR X r) (h2 : OpSl C.K r g) (he : PE X e (tO C f)) (hl : PO X lo (tP C fl)) (hu : PO X hi (tP C fh)) :
    PE X (.Subscript e (.Slice lo hi none p2) pos) (tE C (sSl g f fl fh)) :=
  PE.imp (pe_slice hr he hl hu) fun σ H Q ⟨Z, F, ρ, S, m⟩ => tG.step S m fun o ρ1 F1 H1 v l1 S1 r1 m1 => tG.step S1 m1 fun lo ρ2 F2 H2 vl l2 S2 rl m2 => tG.step S2 m2 fun hi ρ3 F3 H3 vh l3 S3 rh m3 => by
    obtain rfl : vl = lo := rl
    obtain rfl : vh = hi := rh
    cases p1 : peek ρ3 o with
    | none => rw [p1] at m3; exact m3.elim
    | some d1 =>
      rw [p1] at m3
      have m4 : At C (relE C.K) Z F3 σ Q (R.of (g d1 vl vh) ρ3) := m3
      cases e : g d1 vl vh with
      | none => rw [e] at m4; exact m4.elim
      | some p =>
        rw [e] at m4
        exact h2 F3 H3 v d1 p.1 vl vh p.2 Q S3.fh (peek_rl S3 (relO.mono (l2.trans l3) r1) p1) e fun F' H' v gr nw => m4 F' H' v gr.ff (S3.grow gr) (NewR.rv S3 nw)
/-! ### operand lists, displays, calls of built-ins -/
def sNil (ρ : Rho) : R (List Opd) := .ok [] ρ
def sCons (f : Rho → R Opd) (g : Rho → R (List Opd)) (ρ : Rho) : R (List Opd) := (f ρ).bind fun o ρ1 => (g ρ1).bind fun os ρ2 => .ok (o :: os) ρ2
theorem da_nil : PA X [] (tA C sNil) := PA.imp pa_nil fun σ H Q ⟨Z, F, ρ, S, m⟩ => m F H [] (Evl.Ex.refl F) S .nil
theorem da_cons {e : Expr} {es : List Expr} {f : Rho → R Opd} {g : Rho → R (List Opd)} (h : PE X e (tO C f)) (h2 : PA X es (tA C g)) (hs : starEach (e :: es) X.env = (false, eval e X.env) :: starEach es X.env := by rfl) : PA X (e :: es) (tA C (sCons f g)) :=
  PA.imp (pa_cons h h2 hs) fun σ H Q ⟨Z, F, ρ, S, m⟩ => tG.step S m fun o ρ1 F1 H1 v l1 S1 r1 m1 => tG.step S1 m1 fun os ρ2 F2 H2 vs l2 S2 r2 m2 => m2 F2 H2 (v :: vs) (Evl.Ex.refl F2) S2 (.cons (relO.mono (Z := Z) (H := H2) (H' := H2) (ρ := ρ2) (ρ' := ρ2) (K := C.K) l2 r1) r2)
def vals : List Opd → Option (List D)
  | [] => some []
  | .val d :: r => (vals r).map (d :: ·)
  | .var _ :: _ => none
theorem vals_rels {K : PySem.W.Frag} : ∀ {vs : List V} {os : List Opd} {ds : List D}, Ops K F σ vs os → vals os = some ds → Rels K F vs ds
  | _, _, _, .nil, e => by cases e; exact .nil
  | _, _, _, .cons (o := .val d) (os := os) h r, e => by
    unfold vals at e
    cases q : vals os with
    | none => rw [q] at e; cases e
    | some es => rw [q] at e; cases e; exact .cons h (vals_rels r q)
  | _, _, _, .cons (o := .var i) _ _, e => by cases e
def sTup (g : Rho → R (List Opd)) (ρ : Rho) : R (D × Bool) := (g ρ).bind fun os ρ1 => R.of ((vals os).bind fun ds => if ds.length ≤ sizeLine then some (.tup ds, false) else none) ρ1
def sLst (g : Rho → R (List Opd)) (ρ : Rho) : R (D × Bool) := (g ρ).bind fun os ρ1 => R.of ((vals os).bind fun ds => if ds.length ≤ sizeLine then some (.lst ds, true) else none) ρ1
theorem de_tup {es : List Expr} {k : Nat} {g : Rho → R (List Opd)} {pos : Pos} (h : PA X es (tA C g)) : PE X (.Tuple es k pos) (tE C (sTup g)) :=
  PE.imp (pe_tup h) fun σ H Q ⟨Z, F, ρ, S, m⟩ => tG.step S m fun os ρ1 F1 H1 vs l1 S1 r1 m1 => by
    cases e : vals os with
    | none => rw [e] at m1; exact m1.elim
    | some ds =>
      rw [e] at m1
      have rr := vals_rels r1 e
      have m2 : At C (relE C.K) Z F1 σ Q (R.of (if ds.length ≤ sizeLine then some (.tup ds, false) else none) ρ1) := m1
      by_cases hz : ds.length ≤ sizeLine
      · rw [if_pos hz] at m2
        refine ⟨by rw [rr.length]; exact hz, fun p np => ?_⟩
        have gr : Grow F1 H1 (upd F1 p (.tup vs)) (upd H1 p (.tup vs)) := Grow.frz S1.fh np
        exact m2 _ _ _ gr.ff (S1.grow gr) (Rel.tup (.of upd_same) (rr.mono gr.ff))
      · rw [if_neg hz] at m2; exact m2.elim
theorem de_lst {es : List Expr} {g : Rho → R (List Opd)} {pos : Pos} (h : PA X es (tA C g)) : PE X (.List es pos) (tE C (sLst g)) :=
  PE.imp (pe_lst h) fun σ H Q ⟨Z, F, ρ, S, m⟩ => tG.step S m fun os ρ1 F1 H1 vs l1 S1 r1 m1 => by
    cases e : vals os with
    | none => rw [e] at m1; exact m1.elim
    | some ds =>
      rw [e] at m1
      have rr := vals_rels r1 e
      have m2 : At C (relE C.K) Z F1 σ Q (R.of (if ds.length ≤ sizeLine then some (.lst ds, true) else none) ρ1) := m1
      by_cases hz : ds.length ≤ sizeLine
      · rw [if_pos hz] at m2
        refine ⟨by rw [rr.length]; exact hz, fun p np => ?_⟩
        have gr : Grow F1 H1 F1 (upd H1 p (.lst vs)) := Grow.fresh S1.fh np
        exact m2 _ _ _ gr.ff (S1.grow gr) (NewR.rv (b := true) S1 ⟨p, rfl, np, Evl.fresh_back S1.fh np, vs, upd_same, rr⟩)
      · rw [if_neg hz] at m2; exact m2.elim
def peeks (ρ : Rho) : List Opd → Option (List D)
  | [] => some []
  | o :: r => (peek ρ o).bind fun d => (peeks ρ r).map (d :: ·)
inductive Rls (K : PySem.W.Frag) (F H : Hp) : List V → List D → Prop
  | nil : Rls K F H [] []
  | cons {v : V} {vs : List V} {d : D} {ds : List D} : Rl K F H v d → Rls K F H vs ds → Rls K F H (v :: vs) (d :: ds)
theorem peeks_rls {K : PySem.W.Frag} {P : Nat → Addr} (S : SR K P Z F σ ρ H) : ∀ {vs : List V} {os : List Opd} {ds : List D}, Ops K F σ vs os → peeks ρ os = some ds → Rls K F H vs ds
  | _, _, _, .nil, e => by cases e; exact .nil
  | _, _, _, .cons (o := o) (os := os) h r, e => by
    unfold peeks at e
    cases p : peek ρ o with
    | none => rw [p] at e; cases e
    | some d =>
      cases q : peeks ρ os with
      | none => rw [p, q] at e; cases e
      | some es =>
        rw [p, q] at e; cases e
        exact .cons (peek_rl (o := o) S h p) (peeks_rls S r q)
def OpN (K : PySem.W.Frag) (r : List V → Hp → VK → Prop) (g : List D → Option (D × Bool)) : Prop :=
  ∀ (F H : Hp) (xs : List V) (ds : List D) (d : D) (fr : Bool) (Q : VK), Le F H → Rls K F H xs ds → g ds = some (d, fr) → (∀ F' H' v, Grow F H F' H' → NewR K H F' H' v d fr → Q v H') → r xs H Q
def sFn (g : List D → Option (D × Bool)) (fa : Rho → R (List Opd)) (ρ : Rho) : R (D × Bool) := (fa ρ).bind fun os ρ1 => R.of ((peeks ρ1 os).bind g) ρ1
theorem tCB_of {r : List V → Hp → VK → Prop} {g : List D → Option (D × Bool)} {fa : Rho → R (List Opd)} (ho : OpN C.K r g) (σ : St) (H : Hp) (Q : VK) (h : tE C (sFn g fa) σ H Q) : tCB r (tA C fa) σ H Q := by
  obtain ⟨Z, F, ρ, S, m⟩ := h
  refine tG.step S m fun os ρ1 F1 H1 vs l1 S1 r1 m1 => ?_
  cases p : peeks ρ1 os with
  | none => rw [p] at m1; exact m1.elim
  | some ds =>
    rw [p] at m1
    have m2 : At C (relE C.K) Z F1 σ Q (R.of (g ds) ρ1) := m1
    cases e : g ds with
    | none => rw [e] at m2; exact m2.elim
    | some q =>
      rw [e] at m2
      exact ho F1 H1 vs ds q.1 q.2 Q S1.fh (peeks_rls S1 r1 p) e fun F' H' v gr nw => m2 F' H' v gr.ff (S1.grow gr) (NewR.rv S1 nw)
theorem de_callB {x : Str} {e : Expr} {es : List Expr} {id : String} {r : List V → Hp → VK → Prop} {g : List D → Option (D × Bool)} {fa : Rho → R (List Opd)} {p pos : Pos} (hc : CallR X (.builtin id) r) (h2 : OpN C.K r g) (hg : Gl X x) (hm : X.mg x = none) (hv : bootBuiltins x = some (.builtin id)) (ha : PA X (e :: es) (tA C fa)) (hn : x ≠ "__name__" := by decide) (hdb : (x == ("__debug__" : Str)) = false := by decide)
    (he : starEach (e :: es) X.env = (false, eval e X.env) :: starEach es X.env := by rfl) (hpl : (backTo pos (starEach es X.env)).any (·.1) = false := by rfl) : PE X (.Call (.Name x p) (e :: es) [] pos) (tE C (sFn g fa)) := PE.imp (pe_callB hc hg hm hv ha hn hdb he hpl) (tCB_of h2)
theorem de_callTy {x : Str} {e : Expr} {es : List Expr} {id : String} {r : List V → Hp → VK → Prop} {g : List D → Option (D × Bool)} {fa : Rho → R (List Opd)} {p pos : Pos} (hc : CallR X (.type id) r) (h2 : OpN C.K r g) (hg : Gl X x) (hm : X.mg x = none) (hv : bootBuiltins x = some (.type id)) (ha : PA X (e :: es) (tA C fa)) (hn : x ≠ "__name__" := by decide) (hdb : (x == ("__debug__" : Str)) = false := by decide)
    (he : starEach (e :: es) X.env = (false, eval e X.env) :: starEach es X.env := by rfl) (hpl : (backTo pos (starEach es X.env)).any (·.1) = false := by rfl) : PE X (.Call (.Name x p) (e :: es) [] pos) (tE C (sFn g fa)) := PE.imp (pe_callTy hc hg hm hv ha hn hdb he hpl) (tCB_of h2)
end Nu
namespace Nu
open PySem PySem.Spec PyProof.Rows L2
variable [WorldI]
variable {C : Cq} {Z Z' F F' H H' : Hp} {σ σ' : St} {ρ ρ' : Rho} {X : Cx}

/-! ## statements -/
def AtS (C : Cq) (Z F : Hp) (E : Ends) : Ss → Prop
  | .nx ρ' => ∀ F' H' σ', Le F F' → SR C.K C.P Z F' σ' ρ' H' → E.nx σ' H'
  | .rt d fr ρ' => ∀ F' H' σ' v, Le F F' → SR C.K C.P Z F' σ' ρ' H' → RvR C.K Z F' H' σ' ρ' v d fr → E.rt v H'
  | .bk ρ' => ∀ F' H' σ', Le F F' → SR C.K C.P Z F' σ' ρ' H' → E.bk σ' H'
  | .ct ρ' => ∀ F' H' σ', Le F F' → SR C.K C.P Z F' σ' ρ' H' → E.ct σ' H'
  | .exc c fs ρ' => ∀ F' H' σ' dd vs, Le F F' → SR C.K C.P Z F' σ' ρ' H' → F' dd = some (.xd vs) → RelF C.K F' vs fs → C.W (.ref (He.ga C.K c)) (some dd) σ' H'
  | .err => False
theorem AtS.mono {E : Ends} {r : Ss} (e : Le F F') (h : AtS C Z F E r) : AtS C Z F' E r := by
  cases r with
  | nx ρ' => exact fun F2 H2 s l S => h F2 H2 s (e.trans l) S
  | rt d fr ρ' => exact fun F2 H2 s v l S q => h F2 H2 s v (e.trans l) S q
  | bk ρ' => exact fun F2 H2 s l S => h F2 H2 s (e.trans l) S
  | ct ρ' => exact fun F2 H2 s l S => h F2 H2 s (e.trans l) S
  | exc c fs ρ' => exact fun F2 H2 s dd vs l S q => h F2 H2 s dd vs (e.trans l) S q
  | err => exact h
def tS (C : Cq) (f : Rho → Ss) : TS := fun E σ H => ∃ Z F ρ, SR C.K C.P Z F σ ρ H ∧ AtS C Z F E (f ρ)
def Rx {α : Type} (r : R α) (k : α → Rho → Ss) : Ss :=
  match r with
  | .ok a ρ => k a ρ
  | .exc c fs ρ => .exc c fs ρ
  | .err => .err
@[simp] theorem Rx_ok {α : Type} (a : α) (ρ : Rho) (g : α → Rho → Ss) : Rx (R.ok a ρ) g = g a ρ := rfl
@[simp] theorem Rx_exc {α : Type} (c : Str) (fs : List (Str × D)) (ρ : Rho) (g : α → Rho → Ss) : Rx (R.exc c fs ρ : R α) g = .exc c fs ρ := rfl
@[simp] theorem Rx_err {α : Type} (g : α → Rho → Ss) : Rx (R.err : R α) g = .err := rfl
def Ss.seq (r : Ss) (g : Rho → Ss) : Ss :=
  match r with
  | .nx ρ => g ρ
  | r => r
@[simp] theorem Ss.seq_nx (ρ : Rho) (g : Rho → Ss) : (Ss.nx ρ).seq g = g ρ := rfl
@[simp] theorem Ss.seq_rt (d : D) (fr : Bool) (ρ : Rho) (g : Rho → Ss) : (Ss.rt d fr ρ).seq g = .rt d fr ρ := rfl
@[simp] theorem Ss.seq_bk (ρ : Rho) (g : Rho → Ss) : (Ss.bk ρ).seq g = .bk ρ := rfl
@[simp] theorem Ss.seq_ct (ρ : Rho) (g : Rho → Ss) : (Ss.ct ρ).seq g = .ct ρ := rfl
@[simp] theorem Ss.seq_exc (c : Str) (fs : List (Str × D)) (ρ : Rho) (g : Rho → Ss) : (Ss.exc c fs ρ).seq g = .exc c fs ρ := rfl
@[simp] theorem Ss.seq_err (g : Rho → Ss) : Ss.err.seq g = .err := rfl
theorem tG.stepS {α β : Type} {rel : RelT β α} {f : Rho → R α} {k : α → Rho → Ss} {E : Ends} {Q1 : β → Hp → Prop} (S : SR C.K C.P Z F σ ρ H) (h : AtS C Z F E (Rx (f ρ) k))
    (kk : ∀ a ρ1 F1 H1 v, Le F F1 → SR C.K C.P Z F1 σ ρ1 H1 → rel Z F1 H1 σ ρ1 v a → AtS C Z F1 E (k a ρ1) → Q1 v H1) : tG C rel f σ H Q1 := by
  refine ⟨Z, F, ρ, S, ?_⟩
  cases hf : f ρ with
  | ok a ρ1 =>
    rw [hf] at h
    exact fun F1 H1 v l S1 r => kk a ρ1 F1 H1 v l S1 r (AtS.mono l h)
  | exc c fs ρ1 =>
    rw [hf] at h
    exact fun F1 H1 dd vs l S1 e r => h F1 H1 σ dd vs l S1 e r
  | err =>
    rw [hf] at h
    exact h.elim
def sNx (ρ : Rho) : Ss := .nx ρ
def sSeq (f g : Rho → Ss) (ρ : Rho) : Ss := (f ρ).seq g
theorem dss_nil : PSs X [] (tS C sNx) := PSs.imp pss_nil fun E σ H ⟨Z, F, ρ, S, m⟩ => m F H σ (Evl.Ex.refl F) S
theorem dss_one {st : Stmt} {f : Rho → Ss} (h : PS X st (tS C f)) : PSs X [st] (tS C f) := pss_one h
theorem dss_cons {st : Stmt} {rest : List Stmt} {f g : Rho → Ss} (h : PS X st (tS C f)) (h2 : PSs X rest (tS C g)) : PSs X (st :: rest) (tS C (sSeq f g)) :=
  PSs.imp (pss_cons h h2) fun E σ H ⟨Z, F, ρ, S, m⟩ => by
    refine ⟨Z, F, ρ, S, ?_⟩
    have m' : AtS C Z F E ((f ρ).seq g) := m
    cases hf : f ρ with
    | nx ρ1 => rw [hf] at m'; exact fun F1 H1 σ1 l S1 => ⟨Z, F1, ρ1, S1, AtS.mono l m'⟩
    | rt d fr ρ1 => rw [hf] at m'; exact m'
    | bk ρ1 => rw [hf] at m'; exact m'
    | ct ρ1 => rw [hf] at m'; exact m'
    | exc c fs ρ1 => rw [hf] at m'; exact m'
    | err => rw [hf] at m'; exact m'
def sBk (ρ : Rho) : Ss := .bk ρ
def sCt (ρ : Rho) : Ss := .ct ρ
def sDrop (f : Rho → R (D × Bool)) (ρ : Rho) : Ss := Rx (f ρ) fun _ ρ1 => .nx ρ1
def sRet (f : Rho → R (D × Bool)) (ρ : Rho) : Ss := Rx (f ρ) fun a ρ1 => .rt a.1 a.2 ρ1
theorem ds_ret {e : Expr} {f : Rho → R (D × Bool)} {pos : Pos} (h : PE X e (tE C f)) : PS X (.Return (some e) pos) (tS C (sRet f)) :=
  PS.imp (ps_ret h) fun E σ H ⟨Z, F, ρ, S, m⟩ => tG.stepS S m fun a ρ1 F1 H1 v l S1 r m1 => m1 F1 H1 σ v (Evl.Ex.refl F1) S1 r
def sRetN (ρ : Rho) : Ss := .rt .non false ρ
theorem getElem?_set_none {ρ : Rho} {i j : Nat} {p : D × Kd} (h : (ρ.set i none)[j]? = some (some p)) : i ≠ j ∧ ρ[j]? = some (some p) := by
  by_cases hij : i = j
  · subst hij
    rw [List.getElem?_set] at h
    simp only [if_true] at h
    split at h <;> cases h
  · rw [List.getElem?_set_ne hij] at h; exact ⟨hij, h⟩
theorem SR.forget {K : PySem.W.Frag} {P : Nat → Addr} (S : SR K P Z F σ ρ H) (i : Nat) : SR K P Z F σ (ρ.set i none) H where
  fh := S.fh
  zh := S.zh
  zf := S.zf
  zt := S.zt
  len := by rw [List.length_set]; exact S.len
  sl := fun j d k e => S.sl j d k (getElem?_set_none e).2
  ap := fun j l d e k k' a hjl hj hl => S.ap j l d e k k' a hjl (getElem?_set_none hj).2 (getElem?_set_none hl).2
  pn := fun j d e => S.pn j d (getElem?_set_none e).2
def sRetV (i : Nat) (ρ : Rho) : Ss :=
  match ρ[i]? with
  | some (some (d, .sh)) => .rt d false ρ
  | some (some (d, .ow)) => .rt d true (ρ.set i none)
  | _ => .err
theorem ds_retV {i : Nat} {e : Expr} {pos : Pos} (h : PE X e (tVar i)) : PS X (.Return (some e) pos) (tS C (sRetV i)) :=
  PS.imp (ps_ret h) fun E σ H ⟨Z, F, ρ, S, m⟩ => by
    unfold sRetV at m
    cases q : ρ[i]? with
    | none => rw [q] at m; exact m.elim
    | some s =>
      cases s with
      | none => rw [q] at m; exact m.elim
      | some p =>
        obtain ⟨d, k⟩ := p
        rw [q] at m
        cases k with
        | sh =>
          obtain ⟨v, hv, w⟩ := S.sl i d _ q
          exact ⟨v, hv, m F H σ v (Evl.Ex.refl F) S w⟩
        | ow =>
          obtain ⟨v, hv, a, rfl, w⟩ := S.sl i d _ q
          refine ⟨_, hv, m F H σ _ (Evl.Ex.refl F) (S.forget i) ⟨a, rfl, w, fun j e l hj hl z => ?_⟩⟩
          obtain ⟨hij, hj'⟩ := getElem?_set_none hj
          exact S.ap i j d e _ l a hij q hj' (by decide) hl hv z
        | pin => exact m.elim
def kd (b : Bool) : Kd := if b then .ow else .sh
def sSet (i : Nat) (f : Rho → R (D × Bool)) (ρ : Rho) : Ss := Rx (f ρ) fun a ρ1 => if isPin ρ1[i]? = true then .err else .nx (ρ1.set i (some (a.1, kd a.2)))
theorem tAsg_of {i : Nat} {f : Rho → R (D × Bool)} (E : Ends) (σ : St) (H : Hp) (h : tS C (sSet i f) E σ H) : tAsg (tE C f) (gName i) E σ H := by
  obtain ⟨Z, F, ρ, S, m⟩ := h
  refine tG.stepS S m fun a ρ1 F1 H1 v l S1 r m1 => ?_
  by_cases hp : isPin ρ1[i]? = true
  · rw [if_pos hp] at m1; exact m1.elim
  · rw [if_neg hp] at m1
    exact m1 F1 H1 _ (Evl.Ex.refl F1) (S1.store r (by simpa using hp))
theorem ds_set {i : Nat} {x : Str} {e : Expr} {f : Rho → R (D × Bool)} {pos pos' : Pos} (hN : X.N.Nodup) (hi : X.N[i]? = some x) (hx : Loc X.env.scope x) (h : PE X e (tE C f)) (hs : swapsWith e (some (.Name x pos')) pos.line X.env = pure false := by rfl) (hf : X.fn x = true ∨ X.env.scope.names.lookup x = some .local := by first | exact .inl rfl | exact .inr rfl | assumption) :
    PS X (.Assign [.Name x pos'] e pos) (tS C (sSet i f)) := PS.imp (ps_set hN hi hx h hs hf) tAsg_of
def sIfS (c : Rho → R Bool) (f g : Rho → Ss) (ρ : Rho) : Ss := Rx (c ρ) fun b ρ1 => if b = true then f ρ1 else g ρ1
theorem ds_if {c : Expr} {a b : List Stmt} {fc : Rho → R Bool} {f g : Rho → Ss} {pos : Pos} (hc : PT X c (tT C fc)) (ha : PSs X a (tS C f)) (hb : PSs X b (tS C g)) : PS X (.If c a b pos) (tS C (sIfS fc f g)) :=
  PS.imp (ps_if hc ha hb) fun E σ H ⟨Z, F, ρ, S, m⟩ => tG.stepS S m fun a ρ1 F1 H1 v l S1 r m1 => by
    cases (show v = a from r)
    cases a with
    | true => exact ⟨Z, F1, ρ1, S1, m1⟩
    | false => exact ⟨Z, F1, ρ1, S1, m1⟩
/-! ### targets -/
inductive Tg where
  | nm (i : Nat)
  | tp (ts : List Tg)
  | lp (ts : List Tg)
def put1 (i : Nat) (d : D) (ρ : Rho) : Option Rho := if isPin ρ[i]? = true then none else some (ρ.set i (some (d, .sh)))
mutual
def Tg.set : Tg → D → Rho → Option Rho
  | .nm i, d, ρ => put1 i d ρ
  | .tp ts, d, ρ => match d with
    | .tup ds => Tg.sets ts ds ρ
    | _ => none
  | .lp ts, d, ρ => match d with
    | .lst ds => Tg.sets ts ds ρ
    | _ => none
def Tg.sets : List Tg → List D → Rho → Option Rho
  | [], [], ρ => some ρ
  | t :: ts, d :: ds, ρ => (t.set d ρ).bind fun ρ1 => Tg.sets ts ds ρ1
  | _, _, _ => none
def Tg.slots : Tg → List Nat
  | .nm i => [i]
  | .tp ts => Tg.slotss ts
  | .lp ts => Tg.slotss ts
def Tg.slotss : List Tg → List Nat
  | [] => []
  | t :: ts => t.slots ++ Tg.slotss ts
def Tg.g (K : PySem.W.Frag) : Tg → TG
  | .nm i => gName i
  | .tp ts => gTup K ts.length (Tg.gs K ts)
  | .lp ts => gLst K ts.length (Tg.gs K ts)
def Tg.gs (K : PySem.W.Frag) : List Tg → TGs
  | [] => gNil
  | t :: ts => gCons (t.g K) (Tg.gs K ts)
end
def Off (vs : List Nat) (σ σ' : St) : Prop := σ'.length = σ.length ∧ ∀ i, i ∉ vs → σ'[i]? = σ[i]?
mutual
theorem Tg.ok {K : PySem.W.Frag} {P : Nat → Addr} : ∀ (t : Tg) {v : V} {d : D} {σ : St} {ρ ρ' : Rho} {Q : St → Hp → Prop}, SR K P Z F σ ρ H → Rel K F v d → t.set d ρ = some ρ' → (∀ σ', Off t.slots σ σ' → SR K P Z F σ' ρ' H → Q σ' H) → t.g K v σ H Q
  | .nm i, v, d, σ, ρ, ρ', Q, S, r, e, k => by
    have e' : put1 i d ρ = some ρ' := by simpa [Tg.set] using e
    unfold put1 at e'
    by_cases hp : isPin ρ[i]? = true
    · rw [if_pos hp] at e'; cases e'
    · rw [if_neg hp] at e'
      cases e'
      show (gName i) v σ H Q
      refine k _ ⟨by rw [List.length_set], fun j hj => ?_⟩ (S.store (b := false) r (by simpa using hp))
      rw [List.getElem?_set_ne (fun z => hj (by simp [Tg.slots, z]))]
  | .tp ts, v, d, σ, ρ, ρ', Q, S, r, e, k => by
    cases d with
    | tup ds =>
      have e' : Tg.sets ts ds ρ = some ρ' := by simpa [Tg.set] using e
      cases r with
      | tup q rr =>
        show gTup K ts.length (Tg.gs K ts) _ σ H Q
        refine ⟨_, _, rfl, sqT_h S.fh q, ?_, Tg.oks ts S rr e' fun σ' o s => k σ' (by simpa [Tg.slots] using o) s⟩
        rw [rr.length]
        exact Tg.sets_len ts e'
    | _ => simp [Tg.set] at e
  | .lp ts, v, d, σ, ρ, ρ', Q, S, r, e, k => by
    cases d with
    | lst ds =>
      have e' : Tg.sets ts ds ρ = some ρ' := by simpa [Tg.set] using e
      cases r with
      | lst q rr =>
        show gLst K ts.length (Tg.gs K ts) _ σ H Q
        refine ⟨_, _, rfl, .of (S.fh _ _ q), ?_, Tg.oks ts S rr e' fun σ' o s => k σ' (by simpa [Tg.slots] using o) s⟩
        rw [rr.length]
        exact Tg.sets_len ts e'
    | _ => simp [Tg.set] at e
theorem Tg.oks {K : PySem.W.Frag} {P : Nat → Addr} : ∀ (ts : List Tg) {vs : List V} {ds : List D} {σ : St} {ρ ρ' : Rho} {Q : St → Hp → Prop}, SR K P Z F σ ρ H → Rels K F vs ds → Tg.sets ts ds ρ = some ρ' → (∀ σ', Off (Tg.slotss ts) σ σ' → SR K P Z F σ' ρ' H → Q σ' H) → Tg.gs K ts vs σ H Q
  | [], vs, ds, σ, ρ, ρ', Q, S, r, e, k => by
    cases r with
    | nil =>
      simp only [Tg.sets, Option.some.injEq] at e
      subst e
      exact ⟨rfl, k σ ⟨rfl, fun _ _ => rfl⟩ S⟩
    | cons _ _ => simp [Tg.sets] at e
  | t :: ts, vs, ds, σ, ρ, ρ', Q, S, r, e, k => by
    cases r with
    | nil => simp [Tg.sets] at e
    | @cons v vs d ds h r =>
      simp only [Tg.sets] at e
      cases e1 : t.set d ρ with
      | none => rw [e1] at e; cases e
      | some ρ1 =>
        rw [e1] at e
        refine ⟨v, vs, rfl, Tg.ok t S h e1 fun σ1 o1 S1 => Tg.oks ts S1 r e fun σ2 o2 S2 => k σ2 ⟨o2.1.trans o1.1, fun i hi => ?_⟩ S2⟩
        simp only [Tg.slotss, List.mem_append, not_or] at hi
        rw [o2.2 i hi.2, o1.2 i hi.1]
theorem Tg.sets_len : ∀ (ts : List Tg) {ds : List D} {ρ ρ' : Rho}, Tg.sets ts ds ρ = some ρ' → ds.length = ts.length
  | [], [], _, _, _ => rfl
  | [], _ :: _, _, _, e => by simp [Tg.sets] at e
  | _ :: _, [], _, _, e => by simp [Tg.sets] at e
  | t :: ts, d :: ds, ρ, ρ', e => by
    simp only [Tg.sets] at e
    cases e1 : t.set d ρ with
    | none => rw [e1] at e; cases e
    | some ρ1 => rw [e1] at e; rw [List.length_cons, List.length_cons, Tg.sets_len ts e]
end
theorem dg_name {i : Nat} {x : Str} {pos : Pos} {K : PySem.W.Frag} (hN : X.N.Nodup) (hi : X.N[i]? = some x) (hx : Loc X.env.scope x) (hf : X.fn x = true ∨ X.env.scope.names.lookup x = some .local := by first | exact .inl rfl | exact .inr rfl | assumption) : PG X (.Name x pos) (Tg.g K (.nm i)) := pg_name hN hi hx hf
def sAsg (t : Tg) (f : Rho → R Opd) (ρ : Rho) : Ss := Rx (f ρ) fun o ρ1 => match o with
  | .val d => (match t.set d ρ1 with
    | some ρ2 => .nx ρ2
    | none => .err)
  | .var _ => .err
end Nu
namespace Nu
open PySem PySem.Spec PyProof.Rows L2
variable [WorldI]
variable {C : Cq} {Z Z' F F' H H' : Hp} {σ σ' : St} {ρ ρ' : Rho} {X : Cx}

/-! ## what is walked -/
structure ItOk (K : PySem.W.Frag) (F : Hp) (J : It) (ds : List D) : Prop where
  go : ∀ F' H (i : Nat) (d : D), Le F F' → Le F' H → ds[i]? = some d → J.go i H ∧ ∀ x H', J.yld i H x H' → ∃ F2, Grow F' H F2 H' ∧ Rel K F2 x d
  stop : ∀ F' H (i : Nat), Le F F' → Le F' H → i = ds.length → J.stop i H
theorem ItOk.mono {K : PySem.W.Frag} {J : It} {ds : List D} (l : Le F F') (h : ItOk K F J ds) : ItOk K F' J ds :=
  ⟨fun F2 H i d l2 => h.go F2 H i d (l.trans l2), fun F2 H i l2 => h.stop F2 H i (l.trans l2)⟩
def relI (K : PySem.W.Frag) : RelT It (List D) := fun _ F _ _ _ J ds => ItOk K F J ds
def tI (C : Cq) (f : Rho → R (List D)) : TI := tG C (relI C.K) f
theorem PI.imp {X : Cx} {tg e : Expr} {t t' : TI} (h : PI X tg e t) (w : ∀ σ H Q, t' σ H Q → t σ H Q) : PI X tg e t' := ⟨fun pins s σ H Q I z => h.run pins s σ H Q I (w σ H Q z)⟩
theorem itl_ok {K : PySem.W.Frag} {a : Addr} {vs : List V} {ds : List D} (q : SqL K F a vs) (r : Rels K F vs ds) : ItOk K F (Itl K a) ds := by
  refine ⟨fun F' H i d l l' e => ?_, fun F' H i l l' e => ?_⟩
  · obtain ⟨v, hv, w⟩ := r.get e
    refine ⟨⟨vs, v, sqL_h (l.trans l') q, hv⟩, fun x H' ⟨eH, hx⟩ => ?_⟩
    subst eH
    have e2 := hx vs (sqL_h (l.trans l') q)
    rw [hv] at e2; cases e2
    exact ⟨F', Grow.refl l', w.mono l⟩
  · refine ⟨vs, sqL_h (l.trans l') q, ?_⟩
    rw [r.length, e]
    exact Nat.le_refl _
theorem itt_ok {K : PySem.W.Frag} {a : Addr} {vs : List V} {ds : List D} (q : SqT K F a vs) (r : Rels K F vs ds) : ItOk K F (Itt K a) ds := by
  refine ⟨fun F' H i d l l' e => ?_, fun F' H i l l' e => ?_⟩
  · obtain ⟨v, hv, w⟩ := r.get e
    refine ⟨⟨vs, v, sqT_h (l.trans l') q, hv⟩, fun x H' ⟨eH, hx⟩ => ?_⟩
    subst eH
    have e2 := hx vs (sqT_h (l.trans l') q)
    rw [hv] at e2; cases e2
    exact ⟨F', Grow.refl l', w.mono l⟩
  · refine ⟨vs, sqT_h (l.trans l') q, ?_⟩
    rw [r.length, e]
    exact Nat.le_refl _
def intsD (lo : Int) (n : Nat) : List D := (List.range n).map fun (i : Nat) => D.int (lo + (i : Int))
theorem itr_ok {K : PySem.W.Frag} {lo : Int} {n : Nat} : ItOk K F (Itr lo n) (intsD lo n) := by
  refine ⟨fun F' H i d l l' e => ?_, fun F' H i l l' e => ?_⟩
  · unfold intsD at e
    rw [List.getElem?_map] at e
    by_cases hi : i < n
    · rw [List.getElem?_range hi] at e
      cases e
      refine ⟨hi, fun x H' ⟨eH, hx⟩ => ?_⟩
      subst eH hx
      exact ⟨F', Grow.refl l', .int _⟩
    · rw [List.getElem?_eq_none (by simpa using hi)] at e; cases e
  · unfold intsD at e
    show n ≤ i
    rw [e]
    simp
def rOk (i : Int) : Bool := decide (-(2 ^ 62) ≤ i) && decide (i < 2 ^ 62)
theorem rOk_iff {i : Int} (h : rOk i = true) : -(2 ^ 62) ≤ i ∧ i < 2 ^ 62 := by
  unfold rOk at h
  rw [Bool.and_eq_true, decide_eq_true_eq, decide_eq_true_eq] at h
  exact h
def rng1 : List Opd → Option (List D)
  | [.val (.int j)] => if rOk j = true then some (intsD 0 j.toNat) else none
  | _ => none
def rng2 : List Opd → Option (List D)
  | [.val (.int i), .val (.int j)] => if rOk i = true ∧ rOk j = true then some (intsD i (j - i).toNat) else none
  | _ => none
def sItR (g : List Opd → Option (List D)) (f : Rho → R (List Opd)) (ρ : Rho) : R (List D) := (f ρ).bind fun os ρ1 => R.of (g os) ρ1
theorem ops1 {K : PySem.W.Frag} {vs : List V} {d : D} (h : Ops K F σ vs [.val d]) : ∃ v, vs = [v] ∧ Rel K F v d := by
  cases h with | cons h r => cases r; exact ⟨_, rfl, h⟩
theorem di_rng1 {tg a : Expr} {f : Rho → R (List Opd)} {p pos : Pos} (hg : Gl X "range") (hm : X.mg "range" = none) (ha : PA X [a] (tA C f)) (hs : starEach [a] X.env = [(false, eval a X.env)] := by rfl) : PI X tg (.Call (.Name "range" p) [a] [] pos) (tI C (sItR rng1 f)) :=
  PI.imp (pi_range1 hg hm ha hs) fun σ H R ⟨Z, F, ρ, S, m⟩ => tG.step S m fun os ρ1 F1 H1 vs l S1 r m1 => by
    cases e : rng1 os with
    | none => rw [e] at m1; exact m1.elim
    | some ds =>
      rw [e] at m1
      unfold rng1 at e
      split at e
      · rename_i j
        by_cases hj : rOk j = true
        · rw [if_pos hj] at e
          cases e
          obtain ⟨v, rfl, w⟩ := ops1 r
          cases w
          exact ⟨j, rfl, (rOk_iff hj).1, (rOk_iff hj).2, m1 F1 H1 _ (Evl.Ex.refl F1) S1 itr_ok⟩
        · rw [if_neg hj] at e; cases e
      · cases e
theorem sign_get {x : List Cp} {i : Nat} {c : Cp} (h : x[i]? = some c) : (toStr x).cps[i]? = some c.val := by
  unfold toStr
  show (x.map (·.val)).toArray[i]? = some c.val
  rw [List.getElem?_toArray, List.getElem?_map, h]
  rfl
theorem toStr_length (x : List Cp) : (toStr x).length = x.length := by
  unfold toStr Str.length
  simp

/-! ## for -/
def forLoop (t : Tg) (body : Rho → Ss) : List D → Rho → Ss
  | [], ρ => .nx ρ
  | d :: ds, ρ => match t.set d ρ with
    | none => .err
    | some ρ1 => match body ρ1 with
      | .nx ρ2 => forLoop t body ds ρ2
      | .ct ρ2 => forLoop t body ds ρ2
      | .bk ρ2 => .nx ρ2
      | r => r
def sFor (t : Tg) (it : Rho → R (List D)) (body : Rho → Ss) (ρ : Rho) : Ss := Rx (it ρ) fun ds ρ1 => forLoop t body ds ρ1
theorem ds_for {tg iter : Expr} {body : List Stmt} {t : Tg} {fi : Rho → R (List D)} {fb : Rho → Ss} {pos : Pos} (hp : PassesOwn (model X.prog X.w) X.A X.env X.xe) (hc : X.calm = true) (hi : PI X tg iter (tI C fi)) (hg : PG X tg (t.g C.K)) (hb : PSs X body (tS C fb)) (hs : ∀ x, foldedSetIterable iter X.env x = pure x := by intro _; rfl) : PS X (.For tg iter body [] pos) (tS C (sFor t fi fb)) :=
  PS.imp (ps_for hp hc hi hg hb hs) fun E σ H ⟨Z, F, ρ, S, m⟩ => tG.stepS S m fun ds ρ1 F1 H1 J l S1 r m1 => by
    refine ⟨fun i n σ H => ∃ F ρ, SR C.K C.P Z F σ ρ H ∧ ItOk C.K F J ds ∧ i ≤ ds.length ∧ n = ds.length - i ∧ AtS C Z F E (forLoop t fb (ds.drop i) ρ), ⟨ds.length, F1, ρ1, S1, r, Nat.zero_le _, by simp, m1⟩, ?_⟩
    rintro i n σ2 H2 ⟨F2, ρ2, S2, r2, hi, rfl, m2⟩
    by_cases hlt : i < ds.length
    · have hd : ds[i]? = some ds[i] := List.getElem?_eq_getElem hlt
      obtain ⟨g1, g2⟩ := r2.go F2 H2 i _ (Evl.Ex.refl F2) S2.fh hd
      rw [List.drop_eq_getElem_cons hlt] at m2
      simp only [forLoop] at m2
      refine .inr ⟨g1, fun σ' H' => ∃ F ρ, SR C.K C.P Z F σ' ρ H' ∧ ItOk C.K F J ds ∧ AtS C Z F E (forLoop t fb (ds.drop (i + 1)) ρ), fun σ' H' ⟨F', ρ', S', r', m'⟩ => ⟨ds.length - (i + 1), by omega, F', ρ', S', r', hlt, rfl, m'⟩, fun x H' y => ?_⟩
      obtain ⟨F3, gr, w⟩ := g2 x H' y
      have S3 := S2.grow gr
      cases e : t.set ds[i] ρ2 with
      | none => rw [e] at m2; exact m2.elim
      | some ρ3 =>
        rw [e] at m2
        refine Tg.ok t S3 w e fun σ3 _ S4 => ⟨Z, F3, ρ3, S4, ?_⟩
        have m3 := AtS.mono gr.ff m2
        cases hb : fb ρ3 with
        | nx ρ4 =>
          simp only [hb] at m3
          exact fun F5 H5 σ5 l5 S5 => ⟨F5, ρ4, S5, r2.mono (gr.ff.trans l5), AtS.mono l5 m3⟩
        | ct ρ4 =>
          simp only [hb] at m3
          exact fun F5 H5 σ5 l5 S5 => ⟨F5, ρ4, S5, r2.mono (gr.ff.trans l5), AtS.mono l5 m3⟩
        | bk ρ4 => simp only [hb] at m3; exact m3
        | rt d fr ρ4 => simp only [hb] at m3; exact m3
        | exc c fs ρ4 => simp only [hb] at m3; exact m3
        | err => simp only [hb] at m3; exact m3
    · have e : i = ds.length := by omega
      subst e
      rw [List.drop_length] at m2
      exact .inl ⟨r2.stop F2 H2 _ (Evl.Ex.refl F2) S2.fh rfl, m2 F2 H2 σ2 (Evl.Ex.refl F2) S2⟩
/-! ## while -/
end Nu
namespace Nu
open PySem PySem.Spec PyProof.Rows L2
variable [WorldI]
variable {C : Cq} {Z Z' F F' H H' : Hp} {σ σ' : St} {ρ ρ' : Rho} {X : Cx}

/-! ## comprehensions -/
def wipeR (ρ : Rho) : List Nat → Rho
  | [] => ρ
  | v :: vs => (wipeR ρ vs).set v none
theorem wipeR_some {ρ : Rho} {i : Nat} {p : D × Kd} : ∀ {vs : List Nat}, (wipeR ρ vs)[i]? = some (some p) → ρ[i]? = some (some p) ∧ i ∉ vs
  | [], h => ⟨h, by simp⟩
  | v :: vs, h => by
    unfold wipeR at h
    obtain ⟨h1, h2⟩ := getElem?_set_none h
    obtain ⟨h3, h4⟩ := wipeR_some h2
    exact ⟨h3, by simp only [List.mem_cons, not_or]; exact ⟨fun e => h1 e.symm, h4⟩⟩
theorem wipeR_length (ρ : Rho) : ∀ vs : List Nat, (wipeR ρ vs).length = ρ.length
  | [] => rfl
  | v :: vs => by unfold wipeR; rw [List.length_set, wipeR_length ρ vs]
theorem SR.other {K : PySem.W.Frag} {P : Nat → Addr} {ρ0 : Rho} {vs : List Nat} (S : SR K P Z F σ ρ0 H) (hl : σ'.length = σ.length) (h : ∀ i, i ∉ vs → σ'[i]? = σ[i]?) : SR K P Z F σ' (wipeR ρ0 vs) H where
  fh := S.fh
  zh := S.zh
  zf := S.zf
  zt := S.zt
  len := by rw [wipeR_length, hl]; exact S.len
  sl := fun i d k e => by
    obtain ⟨h1, h2⟩ := wipeR_some e
    rw [h i h2]
    exact S.sl i d k h1
  ap := fun i j d e k l a hij hi hj hk hl qi qj => by
    obtain ⟨h1, h2⟩ := wipeR_some hi
    obtain ⟨h3, h4⟩ := wipeR_some hj
    rw [h i h2] at qi
    rw [h j h4] at qj
    exact S.ap i j d e k l a hij h1 h3 hk hl qi qj
  pn := fun i d e => by
    obtain ⟨h1, h2⟩ := wipeR_some e
    rw [h i h2]
    exact S.pn i d h1
theorem wipeR_idem (ρ : Rho) (vs : List Nat) : wipeR (wipeR ρ vs) vs = wipeR ρ vs := by
  have all : ∀ ws : List Nat, (∀ v ∈ ws, v ∈ vs) → wipeR (wipeR ρ vs) ws = wipeR ρ vs := by
    intro ws
    induction ws with
    | nil => intro _; rfl
    | cons w ws ih =>
      intro h
      show (wipeR (wipeR ρ vs) ws).set w none = wipeR ρ vs
      rw [ih fun v hv => h v (List.mem_cons_of_mem _ hv)]
      have hw : w ∈ vs := h w List.mem_cons_self
      apply List.ext_getElem?
      intro i
      by_cases hi : w = i
      · subst hi
        rw [List.getElem?_set]
        simp only [if_true]
        split
        · rename_i hlt
          cases q : (wipeR ρ vs)[w]? with
          | none => exact absurd (List.getElem?_eq_none_iff.mp q) (by omega)
          | some s =>
            cases s with
            | none => rfl
            | some p => exact absurd hw (wipeR_some q).2
        · rename_i hlt
          rw [List.getElem?_eq_none (by omega)]
      · rw [List.getElem?_set_ne hi]
  exact all vs fun _ h => h
theorem wipe_eq {σ σ' : St} {vs : List Nat} (hl : σ'.length = σ.length) (h : ∀ i, i ∉ vs → σ'[i]? = σ[i]?) : wipe σ' vs = wipe σ vs := by
  apply List.ext_getElem?
  intro i
  by_cases hi : i ∈ vs
  · have none_at : ∀ (τ : St) (ws : List Nat), i ∈ ws → i < τ.length → (wipe τ ws)[i]? = some none := by
      intro τ ws
      induction ws with
      | nil => intro h; cases h
      | cons w ws ih =>
        intro hm hlt
        unfold wipe
        by_cases hw : w = i
        · subst hw; rw [List.getElem?_set]; simp only [if_true]; rw [if_pos (by rw [wipe_length]; exact hlt)]
        · rw [List.getElem?_set_ne hw]
          rcases List.mem_cons.mp hm with z | z
          · exact absurd z.symm hw
          · exact ih z hlt
    by_cases hlt : i < σ.length
    · rw [none_at σ vs hi hlt, none_at σ' vs hi (by omega)]
    · rw [List.getElem?_eq_none (by rw [wipe_length]; omega), List.getElem?_eq_none (by rw [wipe_length]; omega)]
  · rw [wipe_out hi, wipe_out hi, h i hi]
theorem SR.free_of {K : PySem.W.Frag} {P : Nat → Addr} {D : Addr} {o : HO} (S : SR K P (upd Z D o) F σ ρ H) : Free σ ρ D := fun i d k hi hk q => by
  obtain ⟨v, hv, w⟩ := S.sl i d k hi
  rw [q] at hv; cases hv
  cases k with
  | sh => exact hk rfl
  | ow => obtain ⟨a, e, w⟩ := w; cases e; have := w.nz; rw [upd_same] at this; cases this
  | pin => obtain ⟨a, e, w⟩ := w; cases e; have := w.nz; rw [upd_same] at this; cases this
theorem SR.poke {K : PySem.W.Frag} {P : Nat → Addr} {D : Addr} {o : HO} (S : SR K P Z F σ ρ H) (nf : F D = none) (nz : Z D = none) (fr : Free σ ρ D) (ne : ∀ w, H D = some w → NoCode w) : SR K P Z F σ ρ (upd H D o) where
  fh := fun b u e => by rw [upd_ne (ne_of_none e nf)]; exact S.fh b u e
  zh := S.zh.put nz ne
  zf := S.zf
  zt := S.zt
  len := S.len
  sl := fun i d k e => by
    obtain ⟨v, hv, w⟩ := S.sl i d k e
    refine ⟨v, hv, ?_⟩
    cases k with
    | sh => exact w
    | ow =>
      obtain ⟨a, r, w⟩ := w; subst r
      have ha : a ≠ D := fun z => by subst z; exact fr i d _ e (by decide) hv
      exact ⟨a, rfl, w.nf, w.nz, w.at_.move (Evl.Ex.refl F) fun o q => by rw [upd_ne ha]; exact q⟩
    | pin =>
      obtain ⟨a, r, w⟩ := w; subst r
      have ha : a ≠ D := fun z => by subst z; exact fr i d _ e (by decide) hv
      exact ⟨a, rfl, w.nf, w.nz, w.at_.move (Evl.Ex.refl F) fun o q => by rw [upd_ne ha]; exact q⟩
  ap := S.ap
  pn := S.pn
abbrev Cq.in (C : Cq) : Cq := { C with W := fun _ _ _ _ => False }
def lcLoop (vs : List Nat) (t : Tg) (tt : Rho → R Bool) (f : Rho → R (D × Bool)) : List D → List D → Rho → R (List D)
  | [], acc, ρ => .ok acc ρ
  | d :: ds, acc, ρ => match t.set d ρ with
    | none => .err
    | some ρ1 => match tt ρ1 with
      | .ok true ρ2 => (match f ρ2 with
        | .ok a ρ3 => if acc.length < sizeLine then lcLoop vs t tt f ds (acc ++ [a.1]) (wipeR ρ3 vs) else .err
        | _ => .err)
      | .ok false ρ2 => lcLoop vs t tt f ds acc (wipeR ρ2 vs)
      | _ => .err
def sLc (vs : List Nat) (t : Tg) (it : Rho → R (List D)) (tt : Rho → R Bool) (f : Rho → R (D × Bool)) (ρ : Rho) : R (D × Bool) :=
  (it ρ).bind fun ds ρ1 => (lcLoop vs t tt f ds [] (wipeR ρ1 vs)).bind fun acc ρ2 => .ok (.lst acc, true) ρ2
theorem tLc_of {vs : List Nat} {t : Tg} {it : Rho → R (List D)} {tt : Rho → R Bool} {f : Rho → R (D × Bool)} (hv : ∀ i ∈ t.slots, i ∈ vs) (σ : St) (H : Hp) (Q : VK) (h : tE C (sLc vs t it tt f) σ H Q) : tLc (tI C it) (t.g C.K) (tT C.in tt) (tE C.in f) vs σ H Q := by
  obtain ⟨Z, F, ρ, S, m⟩ := h
  refine tG.step S m fun ds ρ1 F1 H1 J l1 S1 r1 m1 => fun Dd nD => ?_
  have nf1 : F1 Dd = none := Evl.fresh_back S1.fh nD
  have nz1 : Z Dd = none := S1.zh.none nD
  have fr1 : Free σ ρ1 Dd := fun i d k hi hk q => by
    obtain ⟨v, hv, w⟩ := S1.sl i d k hi
    rw [q] at hv; cases hv
    cases k with
    | sh => exact hk rfl
    | ow => obtain ⟨a, e, w⟩ := w; cases e; obtain ⟨o, ho⟩ := w.obj_at; rw [nD] at ho; cases ho
    | pin => obtain ⟨a, e, w⟩ := w; cases e; obtain ⟨o, ho⟩ := w.obj_at; rw [nD] at ho; cases ho
  let k : List D → Rho → R (D × Bool) := fun acc ρ2 => .ok (.lst acc, true) ρ2
  refine ⟨fun i n H => ∃ F ρ0 acc av, SR C.K C.P Z F (wipe σ vs) (wipeR ρ0 vs) H ∧ H Dd = some (.lst av) ∧ Rels C.K F av acc ∧ F Dd = none ∧ Free (wipe σ vs) (wipeR ρ0 vs) Dd ∧ ItOk C.K F J ds ∧ i ≤ ds.length ∧ n = ds.length - i ∧
      At C (relE C.K) Z F σ Q ((lcLoop vs t tt f (ds.drop i) acc (wipeR ρ0 vs)).bind k), ⟨ds.length, F1, ρ1, [], [], ?_, upd_same, .nil, nf1, ?_, r1, Nat.zero_le _, by simp, m1⟩, ?_⟩
  · exact ((S1.poke nf1 nz1 fr1 fun w hw => by rw [nD] at hw; cases hw).other (σ' := wipe σ vs) (wipe_length σ vs) fun i hi => wipe_out hi)
  · intro i d q hi hq z
    obtain ⟨h1, h2⟩ := wipeR_some hi
    rw [wipe_out h2] at z
    exact fr1 i d q h1 hq z
  · rintro i n H2 ⟨F2, ρ0, acc, av, S2, eD, ra, nf2, fr2, r2, hi, rfl, m2⟩
    by_cases hlt : i < ds.length
    · have hd : ds[i]? = some ds[i] := List.getElem?_eq_getElem hlt
      obtain ⟨g1, g2⟩ := r2.go F2 H2 i _ (Evl.Ex.refl F2) S2.fh hd
      rw [List.drop_eq_getElem_cons hlt] at m2
      simp only [lcLoop] at m2
      refine .inr ⟨g1, fun H' => ∃ F ρ0 acc av, SR C.K C.P Z F (wipe σ vs) (wipeR ρ0 vs) H' ∧ H' Dd = some (.lst av) ∧ Rels C.K F av acc ∧ F Dd = none ∧ Free (wipe σ vs) (wipeR ρ0 vs) Dd ∧ ItOk C.K F J ds ∧ At C (relE C.K) Z F σ Q ((lcLoop vs t tt f (ds.drop (i + 1)) acc (wipeR ρ0 vs)).bind k),
        fun H' ⟨F', ρ', acc', av', a1, a2, a3, a4, a5, a6, a7⟩ => ⟨ds.length - (i + 1), by omega, F', ρ', acc', av', a1, a2, a3, a4, a5, a6, hlt, rfl, a7⟩, fun x H' y => ?_⟩
      obtain ⟨F3, gr, w⟩ := g2 x H' y
      have S3 := S2.grow gr
      have eD3 : H' Dd = some (.lst av) := gr.hh _ _ eD
      have nf3 : F3 Dd = none := by
        cases q : F3 Dd with
        | none => rfl
        | some u =>
          rcases gr.new _ _ q with z | z
          · rw [nf2] at z; cases z
          · rw [eD] at z; cases z
      cases e : t.set ds[i] (wipeR ρ0 vs) with
      | none => rw [e] at m2; exact m2.elim
      | some ρ3 =>
        simp only [e] at m2
        refine Tg.ok t (S3.more eD3 (fun _ => nofun) nf3 nz1 fr2) w e fun σ3 o3 S4 => ?_
        have hw3 : ∀ j, j ∉ vs → σ3[j]? = (wipe σ vs)[j]? := fun j hj => o3.2 j fun z => hj (hv j z)
        have hl3 : σ3.length = (wipe σ vs).length := o3.1
        have ww : wipe σ3 vs = wipe σ vs := by
          rw [wipe_eq hl3 hw3]
          exact wipe_eq (wipe_length σ vs) fun j hj => wipe_out hj
        have back : ∀ j, j ∉ vs → (wipe σ vs)[j]? = σ3[j]? := fun j hj => (hw3 j hj).symm
        refine ⟨ww, upd Z Dd (.lst av), F3, ρ3, S4, ?_⟩
        cases ht : tt ρ3 with
        | err => simp only [ht] at m2; exact m2.elim
        | exc c fs ρ4 => simp only [ht] at m2; exact m2.elim
        | ok b ρ4 =>
          simp only [ht] at m2
          intro F5 H5 b' l5 S5 rb
          obtain rfl : b' = b := rb
          have eD5 : H5 Dd = some (.lst av) := (S5.zh _ _ upd_same).at_ fun _ => nofun
          have nf5 : F5 Dd = none := S5.zf _ _ upd_same
          have S5' : SR C.K C.P Z F5 σ3 ρ4 H5 := S5.less (le_upd nz1) S.zt
          have fr5 : Free σ3 ρ4 Dd := S5.free_of
          cases b' with
          | false =>
            simp only [Bool.false_eq_true, if_false]
            refine ⟨F5, ρ4, acc, av, S5'.other (σ' := wipe σ vs) hl3.symm back, eD5, ra.mono (gr.ff.trans l5), nf5, ?_, r2.mono (gr.ff.trans l5), At.mono (gr.ff.trans l5) m2⟩
            intro j d q hj hq z
            obtain ⟨h1, h2⟩ := wipeR_some hj
            rw [back j h2] at z
            exact fr5 j d q h1 hq z
          | true =>
            simp only [if_true]
            refine ⟨upd Z Dd (.lst av), F5, ρ4, S5, ?_⟩
            cases hf : f ρ4 with
            | err => simp only [hf] at m2; exact m2.elim
            | exc c fs ρ5 => simp only [hf] at m2; exact m2.elim
            | ok a ρ5 =>
              simp only [hf] at m2
              intro F6 H6 v l6 S6 rv
              obtain ⟨F7, l7, S7, w7⟩ := RvR.share S6 rv
              have eD7 : H6 Dd = some (.lst av) := (S7.zh _ _ upd_same).at_ fun _ => nofun
              have nf7 : F7 Dd = none := S7.zf _ _ upd_same
              have S7' : SR C.K C.P Z F7 σ3 ρ5 H6 := S7.less (le_upd nz1) S.zt
              have fr7 : Free σ3 ρ5 Dd := S7.free_of
              have ll := gr.ff.trans (l5.trans (l6.trans l7))
              by_cases hz : acc.length < sizeLine
              · rw [if_pos hz] at m2
                refine ⟨av, eD7, by rw [ra.length]; exact hz, F7, ρ5, acc ++ [a.1], av ++ [v], ?_, upd_same, (ra.mono ll).append (.cons w7 .nil), nf7, ?_, r2.mono ll, At.mono ll m2⟩
                · exact (S7'.poke nf7 nz1 fr7 fun w hw => by rw [eD7] at hw; cases hw; exact fun _ => nofun).other (σ' := wipe σ vs) hl3.symm back
                · intro j d q hj hq z
                  obtain ⟨h1, h2⟩ := wipeR_some hj
                  rw [back j h2] at z
                  exact fr7 j d q h1 hq z
              · rw [if_neg hz] at m2; exact m2.elim
    · have e : i = ds.length := by omega
      subst e
      rw [List.drop_length] at m2
      refine .inl ⟨r2.stop F2 H2 _ (Evl.Ex.refl F2) S2.fh rfl, ?_⟩
      have S3 : SR C.K C.P Z F2 σ (wipeR (wipeR ρ0 vs) vs) H2 := S2.other (σ' := σ) (wipe_length σ vs).symm fun j hj => (wipe_out hj).symm
      rw [wipeR_idem] at S3
      refine m2 F2 H2 (.ref Dd) (Evl.Ex.refl F2) S3 ⟨Dd, rfl, ⟨nf2, nz1, av, eD, ra⟩, fun j d q hj hq z => ?_⟩
      obtain ⟨h1, h2⟩ := wipeR_some hj
      rw [← wipe_out h2 (σ := σ)] at z
      exact fr2 j d q hj hq z
end Nu
namespace Nu
open PySem PySem.Spec PyProof.Rows L2
variable [WorldI]
variable {C : Cq} {Z Z' F F' H H' : Hp} {σ σ' : St} {ρ ρ' : Rho} {X : Cx}

theorem de_lc {elt tg iter : Expr} {ifs : List Expr} {scope : Scope} {own : List (Str × Nat)} {pos : Pos} {t : Tg} {it : Rho → R (List D)} {tt : Rho → R Bool} {f : Rho → R (D × Bool)} (hc : X.calm = true) (hN : X.N.Nodup) (hi : PI X tg iter (tI C it)) (ok : blkC X.N X.env.scope scope own = true)
    (hg : ∀ (s : Shared) (H : Hp) (A : Addr) (cl : List (Str × Addr)) (fp : List Addr), PG (X.blk s H scope (compEnvC scope cl A X.env) fp) tg (t.g C.K)) (ht : ∀ (s : Shared) (H : Hp) (A : Addr) (cl : List (Str × Addr)) (fp : List Addr), PTs (X.blk s H scope (compEnvC scope cl A X.env) fp) ifs (tT C.in tt))
    (he : ∀ (s : Shared) (H : Hp) (A : Addr) (cl : List (Str × Addr)) (fp : List Addr), PE (X.blk s H scope (compEnvC scope cl A X.env) fp) elt (tE C.in f)) (hv : ∀ i ∈ t.slots, i ∈ own.map (·.2) := by decide) (hs : ∀ x, foldedSetIterable iter X.env x = pure x := by intro _; rfl) :
    PE X (.ListComp elt [⟨tg, iter, ifs, 0⟩] scope pos) (tE C (sLc (own.map (·.2)) t it tt f)) := PE.imp (pe_lc hc hN hi (blkOk_by ok) hg ht he hs) (tLc_of hv)
def sYes (ρ : Rho) : R Bool := .ok true ρ
theorem PTs.imp {X : Cx} {e : List Expr} {t t' : TT} (h : PTs X e t) (w : ∀ σ H Q, t' σ H Q → t σ H Q) : PTs X e t' := ⟨fun pins s σ H Q I z => h.run pins s σ H Q I (w σ H Q z)⟩
theorem dts_nil : PTs X [] (tT C sYes) := PTs.imp pts_nil fun σ H Q ⟨Z, F, ρ, S, m⟩ => m F H true (Evl.Ex.refl F) S rfl
theorem dts_one {c : Expr} {f : Rho → R Bool} (h : PT X c (tT C f)) : PTs X [c] (tT C f) := pts_one h

/-! ## arguments of a def -/
inductive Av where
  | val (d : D) | var (i : Nat) | tmp (d : D)
def tmps : List V → List Av → List Addr
  | .ref a :: vs, .tmp _ :: as => a :: tmps vs as
  | _ :: vs, _ :: as => tmps vs as
  | _, _ => []
inductive Avs (K : PySem.W.Frag) (Z F H : Hp) (σ : St) (ρ : Rho) : List V → List Av → Prop
  | nil : Avs K Z F H σ ρ [] []
  | val {v : V} {d : D} {vs : List V} {as : List Av} : Rel K F v d → Avs K Z F H σ ρ vs as → Avs K Z F H σ ρ (v :: vs) (.val d :: as)
  | var {v : V} {i : Nat} {vs : List V} {as : List Av} : σ[i]? = some (some v) → Avs K Z F H σ ρ vs as → Avs K Z F H σ ρ (v :: vs) (.var i :: as)
  | tmp {a : Addr} {d : D} {vs : List V} {as : List Av} : Own K Z F H a d → Free σ ρ a → a ∉ tmps vs as → Avs K Z F H σ ρ vs as → Avs K Z F H σ ρ (.ref a :: vs) (.tmp d :: as)
def relV (K : PySem.W.Frag) : RelT (List V) (List Av) := fun Z F H σ ρ vs as => Avs K Z F H σ ρ vs as
def tV (C : Cq) (f : Rho → R (List Av)) : TA := tG C (relV C.K) f
def vNil (ρ : Rho) : R (List Av) := .ok [] ρ
def vE (f : Rho → R (D × Bool)) (g : Rho → R (List Av)) (ρ : Rho) : R (List Av) := (f ρ).bind fun a ρ1 => (g ρ1).bind fun as ρ2 => .ok ((if a.2 then .tmp a.1 else .val a.1) :: as) ρ2
def vN (i : Nat) (g : Rho → R (List Av)) (ρ : Rho) : R (List Av) :=
  match ρ[i]? with
  | some (some (d, .sh)) => (g ρ).bind fun as ρ2 => .ok (.val d :: as) ρ2
  | some (some _) => (g ρ).bind fun as ρ2 => .ok (.var i :: as) ρ2
  | _ => .err
theorem Avs.less {K : PySem.W.Frag} (l : Le Z' Z) : ∀ {vs : List V} {as : List Av}, Avs K Z F H σ ρ vs as → Avs K Z' F H σ ρ vs as
  | _, _, .nil => .nil
  | _, _, .val h r => .val h (Avs.less l r)
  | _, _, .var h r => .var h (Avs.less l r)
  | _, _, .tmp w f n r => .tmp ⟨w.nf, Evl.fresh_back l w.nz, w.at_⟩ f n (Avs.less l r)
theorem Avs.notin {K : PySem.W.Frag} {a : Addr} {o : HO} : ∀ {vs : List V} {as : List Av}, Avs K (upd Z a o) F H σ ρ vs as → a ∉ tmps vs as
  | _, _, .nil => by simp [tmps]
  | v :: vs, _, .val _ r => by
    have q := Avs.notin r
    cases v <;> simpa [tmps] using q
  | v :: vs, _, .var _ r => by
    have q := Avs.notin r
    cases v <;> simpa [tmps] using q
  | _, _, .tmp (a := b) w _ _ r => by
    have hb : a ≠ b := fun z => by
      subst z
      have := w.nz
      rw [upd_same] at this
      cases this
    have q := Avs.notin r
    simp only [tmps, List.mem_cons, not_or]
    exact ⟨hb, q⟩
theorem dv_nil : PA X [] (tV C vNil) := PA.imp pa_nil fun σ H Q ⟨Z, F, ρ, S, m⟩ => m F H [] (Evl.Ex.refl F) S .nil
theorem dv_e {e : Expr} {es : List Expr} {f : Rho → R (D × Bool)} {g : Rho → R (List Av)} (h : PE X e (tE C f)) (h2 : PA X es (tV C g)) (hs : starEach (e :: es) X.env = (false, eval e X.env) :: starEach es X.env := by rfl) : PA X (e :: es) (tV C (vE f g)) :=
  PA.imp (pa_cons h h2 hs) fun σ H Q ⟨Z, F, ρ, S, m⟩ => tG.step S m fun a ρ1 F1 H1 v l1 S1 r1 m1 => by
    obtain ⟨d, fr⟩ := a
    cases fr with
    | false => exact tG.step S1 m1 fun as ρ2 F2 H2 vs l2 S2 r2 m2 => m2 F2 H2 (v :: vs) (Evl.Ex.refl F2) S2 (.val (Rel.mono l2 r1) r2)
    | true =>
      obtain ⟨a, rfl, w, fr⟩ := r1
      obtain ⟨o, ho⟩ := w.obj_at
      have S1' := S1.more ho (w.at_.kind ho).1 w.nf w.nz fr
      have m1' : At C (relV C.K) Z F1 σ Q ((g ρ1).bind fun as ρ2 => .ok (.tmp d :: as) ρ2) := m1
      refine ⟨upd Z a o, F1, ρ1, S1', ?_⟩
      cases hg : g ρ1 with
      | err => rw [hg] at m1'; exact m1'.elim
      | exc c fs ρ2 =>
        rw [hg] at m1'
        exact fun F2 H2 dd vs l S2 e r => m1' F2 H2 dd vs l (S2.less (le_upd w.nz) S.zt) e r
      | ok as ρ2 =>
        rw [hg] at m1'
        intro F2 H2 vs l2 S2 r2
        refine m1' F2 H2 (.ref a :: vs) l2 (S2.less (le_upd w.nz) S.zt) (.tmp ⟨S2.zf a o upd_same, w.nz, w.at_.move l2 fun o' e' => ?_⟩ S2.free_of r2.notin (r2.less (le_upd w.nz)))
        rw [ho] at e'; cases e'
        exact (S2.zh a _ upd_same).at_ (w.at_.kind ho).1
theorem dv_n {i : Nat} {e : Expr} {es : List Expr} {g : Rho → R (List Av)} (h : PE X e (tVar i)) (h2 : PA X es (tV C g)) (hs : starEach (e :: es) X.env = (false, eval e X.env) :: starEach es X.env := by rfl) : PA X (e :: es) (tV C (vN i g)) :=
  PA.imp (pa_cons h h2 hs) fun σ H Q ⟨Z, F, ρ, S, m⟩ => by
    unfold vN at m
    cases q : ρ[i]? with
    | none => rw [q] at m; exact m.elim
    | some s =>
      cases s with
      | none => rw [q] at m; exact m.elim
      | some p =>
        obtain ⟨d, k⟩ := p
        rw [q] at m
        obtain ⟨v, hv, w⟩ := S.sl i d _ q
        refine ⟨v, hv, ?_⟩
        cases k with
        | sh => exact tG.step S m fun as ρ2 F2 H2 vs l2 S2 r2 m2 => m2 F2 H2 (v :: vs) (Evl.Ex.refl F2) S2 (.val (Rel.mono l2 w) r2)
        | ow => exact tG.step S m fun as ρ2 F2 H2 vs l2 S2 r2 m2 => m2 F2 H2 (v :: vs) (Evl.Ex.refl F2) S2 (.var hv r2)
        | pin => exact tG.step S m fun as ρ2 F2 H2 vs l2 S2 r2 m2 => m2 F2 H2 (v :: vs) (Evl.Ex.refl F2) S2 (.var hv r2)

/-! ## what a def is worth -/
inductive Mr where
  | ok (d : D) (fr : Bool) (outs : List D)
  | exc (c : Str) (fs : List (Str × D)) (outs : List D)
  | err
abbrev Mir := List D → Mr
def muA : List Bool → List V → List Addr
  | true :: ms, .ref a :: vs => a :: muA ms vs
  | _ :: ms, _ :: vs => muA ms vs
  | _, _ => []
inductive ArgR (K : PySem.W.Frag) (Z F H : Hp) : List Bool → List V → List D → Prop
  | nil : ArgR K Z F H [] [] []
  | sh {v : V} {d : D} {ms : List Bool} {vs : List V} {ds : List D} : Rel K F v d → ArgR K Z F H ms vs ds → ArgR K Z F H (false :: ms) (v :: vs) (d :: ds)
  | mu {a : Addr} {d : D} {ms : List Bool} {vs : List V} {ds : List D} : Own K Z F H a d → a ∉ muA ms vs → ArgR K Z F H ms vs ds → ArgR K Z F H (true :: ms) (.ref a :: vs) (d :: ds)
inductive OutR (K : PySem.W.Frag) (Z F H : Hp) : List Addr → List D → Prop
  | nil : OutR K Z F H [] []
  | cons {a : Addr} {d : D} {as : List Addr} {ds : List D} : Own K Z F H a d → OutR K Z F H as ds → OutR K Z F H (a :: as) (d :: ds)
def ResR (K : PySem.W.Frag) (Z F H : Hp) (as : List Addr) (v : V) (d : D) : Bool → Prop
  | false => Rel K F v d
  | true => ∃ a, v = .ref a ∧ Own K Z F H a d ∧ a ∉ as
structure Hps (K : PySem.W.Frag) (Z F H : Hp) : Prop where
  fh : Le F H
  zh : ZLe Z H
  zf : ∀ a o, Z a = some o → F a = none
  zt : Tabs0 K Z
def MrW (K : PySem.W.Frag) (Z F : Hp) (as : List Addr) (Q : VK) (E : XK) : Mr → Prop
  | .ok d fr outs => ∀ v F' H', Le F F' → Hps K Z F' H' → OutR K Z F' H' as outs → ResR K Z F' H' as v d fr → Q v H'
  | .exc c fs outs => ∀ dd vs F' H', Le F F' → Hps K Z F' H' → OutR K Z F' H' as outs → F' dd = some (.xd vs) → RelF K F' vs fs → E (.ref (He.ga K c)) (some dd) H'
  | .err => False
def spM (K : PySem.W.Frag) (ms : List Bool) (m : Mir) : Sp := fun vs H Q E => ∃ Z F ds, Hps K Z F H ∧ ArgR K Z F H ms vs ds ∧ MrW K Z F (muA ms vs) Q E (m ds)
theorem ArgR.len {K : PySem.W.Frag} : ∀ {ms : List Bool} {vs : List V} {ds : List D}, ArgR K Z F H ms vs ds → vs.length = ms.length ∧ ds.length = ms.length
  | _, _, _, .nil => ⟨rfl, rfl⟩
  | _, _, _, .sh _ r => by obtain ⟨h1, h2⟩ := r.len; simp [h1, h2]
  | _, _, _, .mu _ _ r => by obtain ⟨h1, h2⟩ := r.len; simp [h1, h2]
theorem spM_len {K : PySem.W.Frag} {ms : List Bool} {m : Mir} {vs : List V} {H : Hp} {Q : VK} {E : XK} (h : spM K ms m vs H Q E) : vs.length = ms.length := by
  obtain ⟨Z, F, ds, _, r, _⟩ := h
  exact r.len.1
def Mle (m m' : Mir) : Prop := ∀ ds, m ds = .err ∨ m' ds = m ds
theorem spM_imp {K : PySem.W.Frag} {ms : List Bool} {m m' : Mir} (h : Mle m m') (vs : List V) (H : Hp) (Q : VK) (E : XK) (q : spM K ms m vs H Q E) : spM K ms m' vs H Q E := by
  obtain ⟨Z, F, ds, h1, r, w⟩ := q
  refine ⟨Z, F, ds, h1, r, ?_⟩
  rcases h ds with e | e
  · rw [e] at w; exact w.elim
  · rw [e]; exact w
/-! ### a def's body -/
def rho0 : List Bool → List D → Rho
  | m :: ms, d :: ds => some (d, if m then .pin else .sh) :: rho0 ms ds
  | _, _ => []
def outsOf (ρ : Rho) : List Bool → Nat → Option (List D)
  | [], _ => some []
  | false :: ms, i => outsOf ρ ms (i + 1)
  | true :: ms, i => match ρ[i]? with
    | some (some (d, .pin)) => (outsOf ρ ms (i + 1)).map (d :: ·)
    | _ => none
def bodyM (ms : List Bool) (n : Nat) (f : Rho → Ss) : Mir := fun ds =>
  match f (rho0 ms ds ++ List.replicate (n - ds.length) none) with
  | .nx ρ => (match outsOf ρ ms 0 with
    | some outs => .ok .non false outs
    | none => .err)
  | .rt d fr ρ => (match outsOf ρ ms 0 with
    | some outs => .ok d fr outs
    | none => .err)
  | .exc c fs ρ => (match outsOf ρ ms 0 with
    | some outs => .exc c fs outs
    | none => .err)
  | _ => .err
def pinA (vs : List V) (i : Nat) : Addr := match vs[i]? with
  | some (.ref a) => a
  | _ => 0
theorem rho0_length : ∀ {ms : List Bool} {ds : List D}, ds.length = ms.length → (rho0 ms ds).length = ds.length
  | [], [], _ => rfl
  | _ :: ms, _ :: ds, h => by simp only [rho0, List.length_cons]; rw [rho0_length (by simpa using h)]
theorem rho0_get {K : PySem.W.Frag} : ∀ {ms : List Bool} {vs : List V} {ds : List D} {i : Nat} {d : D} {k : Kd}, ArgR K Z F H ms vs ds → (rho0 ms ds)[i]? = some (some (d, k)) →
    (k = .sh ∧ ∃ v, vs[i]? = some v ∧ Rel K F v d) ∨ (k = .pin ∧ ∃ a, vs[i]? = some (.ref a) ∧ Own K Z F H a d ∧ a ∈ muA ms vs)
  | _, _, _, _, _, _, .nil, e => by simp [rho0] at e
  | _, _, _, 0, _, _, .sh h r, e => by
    simp only [rho0, List.getElem?_cons_zero, Option.some.injEq, Prod.mk.injEq, Bool.false_eq_true, if_false] at e
    obtain ⟨rfl, rfl⟩ := e
    exact .inl ⟨rfl, _, rfl, h⟩
  | _, _, _, i + 1, d, k, .sh (v := v) h r, e => by
    rcases rho0_get (i := i) (d := d) (k := k) r (by simpa [rho0] using e) with ⟨q, v', hv, w⟩ | ⟨q, a, ha, w, hm⟩
    · exact .inl ⟨q, v', by simpa using hv, w⟩
    · refine .inr ⟨q, a, by simpa using ha, w, ?_⟩
      cases v <;> exact hm
  | _, _, _, 0, _, _, .mu (a := a) w n r, e => by
    simp only [rho0, List.getElem?_cons_zero, Option.some.injEq, Prod.mk.injEq, if_true] at e
    obtain ⟨rfl, rfl⟩ := e
    exact .inr ⟨rfl, a, rfl, w, by simp [muA]⟩
  | _, _, _, i + 1, d, k, .mu (a := b) w n r, e => by
    rcases rho0_get (i := i) (d := d) (k := k) r (by simpa [rho0] using e) with ⟨q, v', hv, w⟩ | ⟨q, a, ha, w, hm⟩
    · exact .inl ⟨q, v', by simpa using hv, w⟩
    · exact .inr ⟨q, a, by simpa using ha, w, by simp [muA, hm]⟩
theorem rho0_apart {K : PySem.W.Frag} : ∀ {ms : List Bool} {vs : List V} {ds : List D} {i j : Nat} {d e : D} {a : Addr}, ArgR K Z F H ms vs ds → i ≠ j → (rho0 ms ds)[i]? = some (some (d, .pin)) → (rho0 ms ds)[j]? = some (some (e, .pin)) → vs[i]? = some (.ref a) → vs[j]? = some (.ref a) → False
  | _, _, _, _, _, _, _, _, .nil, _, e, _, _, _ => by simp [rho0] at e
  | _, _, _, 0, 0, _, _, _, _, n, _, _, _, _ => n rfl
  | _, _, _, 0, _ + 1, _, _, _, .sh h r, _, e, _, _, _ => by simp [rho0] at e
  | _, _, _, _ + 1, 0, _, _, _, .sh h r, _, _, e, _, _ => by simp [rho0] at e
  | _, _, _, i + 1, j + 1, d, e, a, .sh h r, n, e1, e2, h1, h2 => rho0_apart (i := i) (j := j) (d := d) (e := e) (a := a) r (by omega) (by simpa [rho0] using e1) (by simpa [rho0] using e2) (by simpa using h1) (by simpa using h2)
  | _, _, _, 0, j + 1, d, e, a, .mu w nn r, _, _, e2, h1, h2 => by
    simp only [List.getElem?_cons_zero, Option.some.injEq, V.ref.injEq] at h1
    subst h1
    rcases rho0_get (i := j) (d := e) (k := .pin) r (by simpa [rho0] using e2) with ⟨q, _⟩ | ⟨_, b, hb, _, hm⟩
    · cases q
    · have h3 : some (V.ref b) = some (V.ref _) := hb.symm.trans (by simpa using h2)
      cases h3
      exact nn hm
  | _, _, _, i + 1, 0, d, e, a, .mu w nn r, _, e1, _, h1, h2 => by
    simp only [List.getElem?_cons_zero, Option.some.injEq, V.ref.injEq] at h2
    subst h2
    rcases rho0_get (i := i) (d := d) (k := .pin) r (by simpa [rho0] using e1) with ⟨q, _⟩ | ⟨_, b, hb, _, hm⟩
    · cases q
    · have h3 : some (V.ref b) = some (V.ref _) := hb.symm.trans (by simpa using h1)
      cases h3
      exact nn hm
  | _, _, _, i + 1, j + 1, d, e, a, .mu w nn r, n, e1, e2, h1, h2 => rho0_apart (i := i) (j := j) (d := d) (e := e) (a := a) r (by omega) (by simpa [rho0] using e1) (by simpa [rho0] using e2) (by simpa using h1) (by simpa using h2)
theorem SR.begin {K : PySem.W.Frag} {ms : List Bool} {vs : List V} {ds : List D} {N : List Str} (hp : Hps K Z F H) (r : ArgR K Z F H ms vs ds) : SR K (pinA vs) Z F (L2.start N vs) (rho0 ms ds ++ List.replicate (N.length - ds.length) none) H := by
  obtain ⟨l1, l2⟩ := r.len
  have lr : (rho0 ms ds).length = ds.length := rho0_length l2
  have lv : vs.length = ds.length := l1.trans l2.symm
  have at_ : ∀ (i : Nat) (d : D) (k : Kd), (rho0 ms ds ++ List.replicate (N.length - ds.length) none)[i]? = some (some (d, k)) → (rho0 ms ds)[i]? = some (some (d, k)) ∧ i < ds.length := fun i d k e => by
    by_cases hi : i < ds.length
    · rw [List.getElem?_append_left (by omega)] at e
      exact ⟨e, hi⟩
    · rw [List.getElem?_append_right (by omega), List.getElem?_replicate] at e
      split at e <;> cases e
  have sg : ∀ i, i < ds.length → (L2.start N vs)[i]? = (vs[i]?).map some := fun i hi => by
    unfold L2.start
    rw [List.getElem?_append_left (by rw [List.length_map]; omega), List.getElem?_map]
  refine ⟨hp.fh, hp.zh, hp.zf, hp.zt, ?_, fun i d k e => ?_, fun i j d e k l a hij hi hj hk hl qi qj => ?_, fun i d e => ?_⟩
  · unfold L2.start
    simp only [List.length_append, List.length_map, List.length_replicate, lr, lv]
  · obtain ⟨e1, hi⟩ := at_ i d k e
    rw [sg i hi]
    rcases rho0_get r e1 with ⟨rfl, v, hv, w⟩ | ⟨rfl, a, ha, w, _⟩
    · exact ⟨v, by rw [hv]; rfl, w⟩
    · exact ⟨_, by rw [ha]; rfl, a, rfl, w⟩
  · obtain ⟨e1, hi'⟩ := at_ i d k hi
    obtain ⟨e2, hj'⟩ := at_ j e l hj
    rw [sg i hi'] at qi
    rw [sg j hj'] at qj
    rcases rho0_get r e1 with ⟨rfl, _⟩ | ⟨rfl, b, hb, _, _⟩
    · exact hk rfl
    · rcases rho0_get r e2 with ⟨rfl, _⟩ | ⟨rfl, c, hc, _, _⟩
      · exact hl rfl
      · rw [hb] at qi
        rw [hc] at qj
        cases qi
        cases qj
        exact rho0_apart r hij e1 e2 hb hc
  · obtain ⟨e1, hi'⟩ := at_ i d .pin e
    rw [sg i hi']
    rcases rho0_get r e1 with ⟨q, _⟩ | ⟨_, b, hb, _, _⟩
    · cases q
    · rw [hb]
      unfold pinA
      rw [hb]
      rfl
theorem outs_ok {K : PySem.W.Frag} {vs0 : List V} (S : SR K (pinA vs0) Z F σ ρ H) : ∀ {ms : List Bool} {i : Nat} {vs : List V} {outs : List D}, vs = vs0.drop i → vs.length = ms.length → (∀ j : Nat, ms[j]? = some true → ∃ a, vs[j]? = some (V.ref a)) → outsOf ρ ms i = some outs → OutR K Z F H (muA ms vs) outs
  | [], i, vs, outs, _, _, _, e => by
    simp only [outsOf, Option.some.injEq] at e
    subst e
    cases vs <;> exact .nil
  | false :: ms, i, vs, outs, hv, hl, hr, e => by
    cases vs with
    | nil => cases hl
    | cons v vs =>
      have h1 : vs = vs0.drop (i + 1) := by rw [← List.drop_drop, ← hv]; rfl
      have q := outs_ok S (ms := ms) (i := i + 1) (vs := vs) h1 (by simpa using hl) (fun j hj => by simpa using hr (j + 1) (by simpa using hj)) (by simpa [outsOf] using e)
      cases v <;> exact q
  | true :: ms, i, vs, outs, hv, hl, hr, e => by
    cases vs with
    | nil => cases hl
    | cons v vs =>
      have h1 : vs = vs0.drop (i + 1) := by rw [← List.drop_drop, ← hv]; rfl
      obtain ⟨a, ha⟩ := hr 0 rfl
      simp only [List.getElem?_cons_zero, Option.some.injEq] at ha
      subst ha
      have hi : vs0[i]? = some (.ref a) := by
        have : (vs0.drop i)[0]? = some (.ref a) := by rw [← hv]; rfl
        rw [List.getElem?_drop] at this
        simpa using this
      have hp : pinA vs0 i = a := by unfold pinA; rw [hi]
      simp only [outsOf] at e
      cases q : ρ[i]? with
      | none => rw [q] at e; cases e
      | some s =>
        cases s with
        | none => rw [q] at e; cases e
        | some p =>
          obtain ⟨d, k⟩ := p
          rw [q] at e
          cases k with
          | sh => cases e
          | ow => cases e
          | pin =>
            cases q2 : outsOf ρ ms (i + 1) with
            | none => rw [q2] at e; cases e
            | some os =>
              rw [q2] at e
              cases e
              have w := S.sl i d .pin q
              obtain ⟨v, hv', b, rfl, w⟩ := w
              have hpn := S.pn i d q
              rw [hv', hp] at hpn
              cases hpn
              exact .cons w (outs_ok S (ms := ms) (i := i + 1) (vs := vs) h1 (by simpa using hl) (fun j hj => by simpa using hr (j + 1) (by simpa using hj)) q2)
theorem argR_refs {K : PySem.W.Frag} : ∀ {ms : List Bool} {vs : List V} {ds : List D}, ArgR K Z F H ms vs ds → ∀ j : Nat, ms[j]? = some true → ∃ a, vs[j]? = some (.ref a)
  | _, _, _, .nil, j, h => by simp at h
  | _, _, _, .sh _ r, 0, h => by simp at h
  | _, _, _, .sh _ r, j + 1, h => by simpa using argR_refs r j (by simpa using h)
  | _, _, _, .mu (a := a) _ _ r, 0, h => ⟨a, rfl⟩
  | _, _, _, .mu _ _ r, j + 1, h => by simpa using argR_refs r j (by simpa using h)
theorem mem_outs {K : PySem.W.Frag} {vs0 : List V} (S : SR K (pinA vs0) Z F σ ρ H) : ∀ {ms : List Bool} {i : Nat} {vs : List V} {outs : List D} {a : Addr}, vs = vs0.drop i → outsOf ρ ms i = some outs → a ∈ muA ms vs → ∃ (j : Nat) (d : D), ρ[j]? = some (some (d, Kd.pin)) ∧ σ[j]? = some (some (V.ref a))
  | [], i, vs, outs, a, _, _, hm => by cases vs <;> simp [muA] at hm
  | false :: ms, i, vs, outs, a, hv, e, hm => by
    cases vs with
    | nil => simp [muA] at hm
    | cons v vs =>
      have h1 : vs = vs0.drop (i + 1) := by rw [← List.drop_drop, ← hv]; rfl
      have hm' : a ∈ muA ms vs := by cases v <;> exact hm
      exact mem_outs S h1 (by simpa [outsOf] using e) hm'
  | true :: ms, i, vs, outs, a, hv, e, hm => by
    cases vs with
    | nil => simp [muA] at hm
    | cons v vs =>
      have h1 : vs = vs0.drop (i + 1) := by rw [← List.drop_drop, ← hv]; rfl
      have hi : vs0[i]? = some v := by
        have : (vs0.drop i)[0]? = some v := by rw [← hv]; rfl
        rw [List.getElem?_drop] at this
        simpa using this
      simp only [outsOf] at e
      cases q : ρ[i]? with
      | none => rw [q] at e; cases e
      | some s =>
        cases s with
        | none => rw [q] at e; cases e
        | some p =>
          obtain ⟨d, k⟩ := p
          rw [q] at e
          cases k with
          | sh => cases e
          | ow => cases e
          | pin =>
            cases q2 : outsOf ρ ms (i + 1) with
            | none => rw [q2] at e; cases e
            | some os =>
              have rec_ : a ∈ muA ms vs → ∃ (j : Nat) (d : D), ρ[j]? = some (some (d, Kd.pin)) ∧ σ[j]? = some (some (V.ref a)) := fun h => mem_outs S h1 q2 h
              cases v with
              | ref b =>
                simp only [muA, List.mem_cons] at hm
                rcases hm with z | z
                · subst z
                  refine ⟨i, d, q, ?_⟩
                  have hpn := S.pn i d q
                  rw [show pinA vs0 i = a by unfold pinA; rw [hi]] at hpn
                  exact hpn
                · exact rec_ z
              | _ => exact rec_ hm
theorem body_at {K : PySem.W.Frag} {ms : List Bool} {vs : List V} {ds : List D} {N : List Str} {f : Rho → Ss} {Q : VK} {E : XK} (hp : Hps K Z F H) (r : ArgR K Z F H ms vs ds) (w : MrW K Z F (muA ms vs) Q E (bodyM ms N.length f ds)) :
    tS ⟨K, pinA vs, fun cls d _ H => E cls d H⟩ f { nx := fun _ H' => Q .non H', rt := Q } (L2.start N vs) H := by
  refine ⟨Z, F, _, SR.begin hp r, ?_⟩
  unfold bodyM at w
  have fin : ∀ {ρ' : Rho} {outs : List D} {F' H' : Hp} {σ' : St}, outsOf ρ' ms 0 = some outs → SR K (pinA vs) Z F' σ' ρ' H' → OutR K Z F' H' (muA ms vs) outs := fun e S => outs_ok S (i := 0) rfl r.len.1 (argR_refs r) e
  cases hf : f (rho0 ms ds ++ List.replicate (N.length - ds.length) none) with
  | nx ρ' =>
    rw [hf] at w
    cases e : outsOf ρ' ms 0 with
    | none => simp only [e] at w; exact w.elim
    | some outs => simp only [e] at w; exact fun F' H' σ' l S => w _ F' H' l ⟨S.fh, S.zh, S.zf, S.zt⟩ (fin e S) Rel.non
  | rt d fr ρ' =>
    rw [hf] at w
    cases e : outsOf ρ' ms 0 with
    | none => simp only [e] at w; exact w.elim
    | some outs =>
      simp only [e] at w
      intro F' H' σ' v l S rv
      refine w v F' H' l ⟨S.fh, S.zh, S.zf, S.zt⟩ (fin e S) ?_
      cases fr with
      | false => exact rv
      | true =>
        obtain ⟨a, rfl, ow, free⟩ := rv
        refine ⟨a, rfl, ow, fun hm => ?_⟩
        obtain ⟨j, d', hj, hs⟩ := mem_outs S (i := 0) rfl e hm
        exact free j d' .pin hj (by decide) hs
  | exc c fs ρ' =>
    rw [hf] at w
    cases e : outsOf ρ' ms 0 with
    | none => simp only [e] at w; exact w.elim
    | some outs => simp only [e] at w; exact fun F' H' σ' dd vs l S h1 h2 => w dd vs F' H' l ⟨S.fh, S.zh, S.zf, S.zt⟩ (fin e S) h1 h2
  | bk ρ' => rw [hf] at w; exact w.elim
  | ct ρ' => rw [hf] at w; exact w.elim
  | err => rw [hf] at w; exact w.elim
end Nu
namespace Nu
open PySem PySem.Spec PyProof.Rows L2
variable [WorldI]
variable {C : Cq} {Z Z' F F' H H' : Hp} {σ σ' : St} {ρ ρ' : Rho} {X : Cx} {K : PySem.W.Frag} {P : Nat → Addr}

def vS (f : Rho → R (D × Bool)) (g : Rho → R (List Av)) (ρ : Rho) : R (List Av) := (f ρ).bind fun a ρ1 => (g ρ1).bind fun as ρ2 => .ok (.val a.1 :: as) ρ2
theorem dv_s {e : Expr} {es : List Expr} {f : Rho → R (D × Bool)} {g : Rho → R (List Av)} (h : PE X e (tE C f)) (h2 : PA X es (tV C g)) (hs : starEach (e :: es) X.env = (false, eval e X.env) :: starEach es X.env := by rfl) : PA X (e :: es) (tV C (vS f g)) :=
  PA.imp (pa_cons h h2 hs) fun σ H Q ⟨Z, F, ρ, S, m⟩ => tG.step S m fun a ρ1 F1 H1 v l1 S1 r1 m1 => by
    obtain ⟨F2, l2, S2, w⟩ := RvR.share S1 r1
    exact tG.step S2 (At.mono l2 m1) fun as ρ2 F3 H2 vs l3 S3 r3 m2 => m2 F3 H2 (v :: vs) (Evl.Ex.refl F3) S3 (.val (w.mono l3) r3)
def argsOf (ρ : Rho) : List Bool → List Av → Option (List D × List (Option Nat))
  | [], [] => some ([], [])
  | false :: ms, .val d :: as => (argsOf ρ ms as).map fun p => (d :: p.1, p.2)
  | true :: ms, .tmp d :: as => (argsOf ρ ms as).map fun p => (d :: p.1, none :: p.2)
  | true :: ms, .var i :: as => match ρ[i]? with
    | some (some (d, k)) => if k = .sh then none else (argsOf ρ ms as).bind fun p => if some i ∈ p.2 then none else some (d :: p.1, some i :: p.2)
    | _ => none
  | _, _ => none
def put2 (i : Nat) (d : D) (ρ : Rho) : Rho := match ρ[i]? with
  | some (some (_, k)) => ρ.set i (some (d, k))
  | _ => ρ
def setOuts : List (Option Nat) → List D → Rho → Rho
  | some i :: L, d :: ds, ρ => setOuts L ds (put2 i d ρ)
  | none :: L, _ :: ds, ρ => setOuts L ds ρ
  | _, _, ρ => ρ
inductive LentR (σ : St) (ρ : Rho) : List (Option Nat) → List Addr → Prop
  | nil : LentR σ ρ [] []
  | some {i : Nat} {a : Addr} {d : D} {k : Kd} {L : List (Option Nat)} {as : List Addr} : σ[i]? = some (some (.ref a)) → ρ[i]? = some (some (d, k)) → k ≠ .sh → some i ∉ L → LentR σ ρ L as → LentR σ ρ (some i :: L) (a :: as)
  | none {a : Addr} {L : List (Option Nat)} {as : List Addr} : Free σ ρ a → LentR σ ρ L as → LentR σ ρ (none :: L) (a :: as)
theorem tmps_cons {v : V} {vs : List V} {x : Av} {as : List Av} {b : Addr} (h : b ∈ tmps vs as) : b ∈ tmps (v :: vs) (x :: as) := by
  cases v <;> cases x <;> simp only [tmps, List.mem_cons] <;> first | exact h | exact .inr h
theorem own_of_slot {i : Nat} {d : D} {k : Kd} {v : V} (S : SR K P Z F σ ρ H) (h : ρ[i]? = some (some (d, k))) (hk : k ≠ .sh) (hv : σ[i]? = some (some v)) : ∃ a, v = .ref a ∧ Own K Z F H a d := by
  obtain ⟨v', hv', w⟩ := S.sl i d k h
  rw [hv] at hv'; cases hv'
  cases k with
  | sh => exact absurd rfl hk
  | ow => exact w
  | pin => exact w
theorem args_ok (S : SR K P Z F σ ρ H) : ∀ {ms : List Bool} {vs : List V} {as : List Av} {ds : List D} {L : List (Option Nat)}, Avs K Z F H σ ρ vs as → argsOf ρ ms as = some (ds, L) →
    (∀ Zc : Hp, (∀ a ∈ muA ms vs, Zc a = none) → ArgR K Zc F H ms vs ds) ∧ LentR σ ρ L (muA ms vs) ∧ (∀ a ∈ muA ms vs, F a = none ∧ Z a = none ∧ (∃ o, H a = some o) ∧ ((∃ j d k, some j ∈ L ∧ σ[j]? = some (some (.ref a)) ∧ ρ[j]? = some (some (d, k)) ∧ k ≠ Kd.sh) ∨ (a ∈ tmps vs as ∧ Free σ ρ a)))
  | [], _, _, ds, L, .nil, e => by
    simp only [argsOf, Option.some.injEq, Prod.mk.injEq] at e
    obtain ⟨rfl, rfl⟩ := e
    exact ⟨fun _ _ => .nil, .nil, fun a h => by simp [muA] at h⟩
  | _ :: _, _, _, ds, L, .nil, e => by simp [argsOf] at e
  | [], _, _, _, _, .val _ _, e => by simp [argsOf] at e
  | [], _, _, _, _, .var _ _, e => by simp [argsOf] at e
  | [], _, _, _, _, .tmp _ _ _ _, e => by simp [argsOf] at e
  | true :: _, _, _, _, _, .val _ _, e => by simp [argsOf] at e
  | false :: _, _, _, _, _, .var _ _, e => by simp [argsOf] at e
  | false :: _, _, _, _, _, .tmp _ _ _ _, e => by simp [argsOf] at e
  | false :: ms, _, _, ds, L, .val (v := v) (d := d) (vs := vs) (as := as) h r, e => by
    simp only [argsOf] at e
    cases q : argsOf ρ ms as with
    | none => rw [q] at e; cases e
    | some p =>
      obtain ⟨ds', L'⟩ := p
      rw [q] at e
      simp only [Option.map_some, Option.some.injEq, Prod.mk.injEq] at e
      obtain ⟨rfl, rfl⟩ := e
      obtain ⟨h1, h2, h3⟩ := args_ok S r q
      have em : muA (false :: ms) (v :: vs) = muA ms vs := by cases v <;> rfl
      rw [em]
      refine ⟨fun Zc hz => .sh h (h1 Zc hz), h2, fun a ha => ?_⟩
      obtain ⟨a1, a2, a3, a4⟩ := h3 a ha
      exact ⟨a1, a2, a3, a4.imp id fun ⟨x, y⟩ => ⟨tmps_cons x, y⟩⟩
  | true :: ms, _, _, ds, L, .tmp (a := a) (d := d) (vs := vs) (as := as) w fr nt r, e => by
    simp only [argsOf] at e
    cases q : argsOf ρ ms as with
    | none => rw [q] at e; cases e
    | some p =>
      obtain ⟨ds', L'⟩ := p
      rw [q] at e
      simp only [Option.map_some, Option.some.injEq, Prod.mk.injEq] at e
      obtain ⟨rfl, rfl⟩ := e
      obtain ⟨h1, h2, h3⟩ := args_ok S r q
      have nin : a ∉ muA ms vs := fun hm => by
        obtain ⟨_, _, _, z⟩ := h3 a hm
        rcases z with ⟨j, d', k, _, hs, hr, hk⟩ | ⟨ht, _⟩
        · exact fr j d' k hr hk hs
        · exact nt ht
      refine ⟨fun Zc hz => .mu ⟨w.nf, hz a (by simp [muA]), w.at_⟩ nin (h1 Zc fun b hb => hz b (by simp [muA, hb])), .none fr h2, fun b hb => ?_⟩
      simp only [muA, List.mem_cons] at hb
      rcases hb with rfl | hb
      · exact ⟨w.nf, w.nz, w.obj_at, .inr ⟨by simp [tmps], fr⟩⟩
      · obtain ⟨a1, a2, a3, a4⟩ := h3 b hb
        refine ⟨a1, a2, a3, ?_⟩
        rcases a4 with ⟨j, d', k, hj, hs⟩ | ⟨x, y⟩
        · exact .inl ⟨j, d', k, List.mem_cons_of_mem _ hj, hs⟩
        · exact .inr ⟨tmps_cons x, y⟩
  | true :: ms, _, _, ds, L, .var (v := v) (i := i) (vs := vs) (as := as) hv r, e => by
    simp only [argsOf] at e
    cases q0 : ρ[i]? with
    | none => rw [q0] at e; cases e
    | some s =>
      cases s with
      | none => rw [q0] at e; cases e
      | some p0 =>
        obtain ⟨d, k⟩ := p0
        rw [q0] at e
        simp only at e
        by_cases hk : k = .sh
        · rw [if_pos hk] at e; cases e
        · rw [if_neg hk] at e
          cases q : argsOf ρ ms as with
          | none => rw [q] at e; cases e
          | some p =>
            obtain ⟨ds', L'⟩ := p
            rw [q] at e
            simp only [Option.bind_some] at e
            by_cases hi : some i ∈ L'
            · rw [if_pos hi] at e; cases e
            · rw [if_neg hi] at e
              simp only [Option.some.injEq, Prod.mk.injEq] at e
              obtain ⟨rfl, rfl⟩ := e
              obtain ⟨h1, h2, h3⟩ := args_ok S r q
              obtain ⟨a, rfl, w⟩ := own_of_slot S q0 hk hv
              have nin : a ∉ muA ms vs := fun hm => by
                obtain ⟨_, _, _, z⟩ := h3 a hm
                rcases z with ⟨j, d', k', hj, hs, hr, hk'⟩ | ⟨_, fr⟩
                · have hij : i ≠ j := fun z => by subst z; exact hi hj
                  exact S.ap i j d d' k k' a hij q0 hr hk hk' hv hs
                · exact fr i d k q0 hk hv
              refine ⟨fun Zc hz => .mu ⟨w.nf, hz a (by simp [muA]), w.at_⟩ nin (h1 Zc fun b hb => hz b (by simp [muA, hb])), .some hv q0 hk hi h2, fun b hb => ?_⟩
              simp only [muA, List.mem_cons] at hb
              rcases hb with rfl | hb
              · exact ⟨w.nf, w.nz, w.obj_at, .inl ⟨i, d, k, by simp, hv, q0, hk⟩⟩
              · obtain ⟨a1, a2, a3, a4⟩ := h3 b hb
                refine ⟨a1, a2, a3, ?_⟩
                rcases a4 with ⟨j, d', k', hj, hs⟩ | ⟨x, y⟩
                · exact .inl ⟨j, d', k', List.mem_cons_of_mem _ hj, hs⟩
                · exact .inr ⟨tmps_cons x, y⟩
theorem put2_get {i j : Nat} {d e : D} {k : Kd} (h : (put2 i d ρ)[j]? = some (some (e, k))) : (i = j ∧ e = d ∧ ∃ d', ρ[i]? = some (some (d', k))) ∨ (i ≠ j ∧ ρ[j]? = some (some (e, k))) ∨ (i = j ∧ ρ[j]? = some (some (e, k)) ∧ ∀ d' k', ρ[i]? ≠ some (some (d', k'))) := by
  unfold put2 at h
  cases q : ρ[i]? with
  | none => rw [q] at h; by_cases hij : i = j; exact .inr (.inr ⟨hij, h, fun _ _ z => by cases z⟩); exact .inr (.inl ⟨hij, h⟩)
  | some s =>
    cases s with
    | none => rw [q] at h; by_cases hij : i = j; exact .inr (.inr ⟨hij, h, fun _ _ z => by cases z⟩); exact .inr (.inl ⟨hij, h⟩)
    | some p =>
      obtain ⟨d', k'⟩ := p
      rw [q] at h
      simp only at h
      by_cases hij : i = j
      · subst hij
        rw [List.getElem?_set] at h
        simp only [if_true] at h
        split at h
        · cases h; exact .inl ⟨rfl, rfl, d', rfl⟩
        · cases h
      · rw [List.getElem?_set_ne hij] at h
        exact .inr (.inl ⟨hij, h⟩)
theorem put2_slot {i j : Nat} {d e : D} {k : Kd} (h : ρ[j]? = some (some (e, k))) : ∃ e', (put2 i d ρ)[j]? = some (some (e', k)) ∧ (i ≠ j → e' = e) := by
  unfold put2
  cases q : ρ[i]? with
  | none => exact ⟨e, h, fun _ => rfl⟩
  | some s =>
    cases s with
    | none => exact ⟨e, h, fun _ => rfl⟩
    | some p =>
      obtain ⟨d', k'⟩ := p
      simp only
      by_cases hij : i = j
      · subst hij
        rw [q] at h; cases h
        refine ⟨d, ?_, fun z => absurd rfl z⟩
        rw [List.getElem?_set]
        simp only [if_true]
        rw [if_pos (List.getElem?_eq_some_iff.mp q).1]
      · exact ⟨e, by rw [List.getElem?_set_ne hij]; exact h, fun _ => rfl⟩
theorem put2_length (i : Nat) (d : D) (ρ : Rho) : (put2 i d ρ).length = ρ.length := by
  unfold put2
  split
  · rw [List.length_set]
  · rfl
theorem setOuts_length : ∀ (L : List (Option Nat)) (ds : List D) (ρ : Rho), (setOuts L ds ρ).length = ρ.length
  | some i :: L, d :: ds, ρ => by simp only [setOuts]; rw [setOuts_length L ds, put2_length]
  | none :: L, _ :: ds, ρ => by simp only [setOuts]; rw [setOuts_length L ds]
  | [], _, ρ => by simp [setOuts]
  | some _ :: _, [], ρ => by simp [setOuts]
  | none :: _, [], ρ => by simp [setOuts]
theorem LentR.put {i : Nat} {d : D} : ∀ {L : List (Option Nat)} {as : List Addr}, LentR σ ρ L as → LentR σ (put2 i d ρ) L as
  | _, _, .nil => .nil
  | _, _, .some h1 h2 h3 h4 r => by
    obtain ⟨e', q, _⟩ := put2_slot (i := i) (d := d) h2
    exact .some h1 q h3 h4 (LentR.put r)
  | _, _, .none f r => .none (fun j e k hj hk z => by
      rcases put2_get hj with ⟨rfl, _, d', q⟩ | ⟨_, q⟩ | ⟨_, q, _⟩
      · exact f _ d' k q hk z
      · exact f _ e k q hk z
      · exact f _ e k q hk z) (LentR.put r)
theorem setOuts_get : ∀ {L : List (Option Nat)} {as : List Addr} {outs : List D} {ρ : Rho} {j : Nat} {e : D} {k : Kd}, LentR σ ρ L as → OutR K Z F H as outs → (setOuts L outs ρ)[j]? = some (some (e, k)) →
    (∃ a, σ[j]? = some (some (.ref a)) ∧ k ≠ .sh ∧ Own K Z F H a e ∧ a ∈ as) ∨ (some j ∉ L ∧ ρ[j]? = some (some (e, k)))
  | _, _, _, ρ, j, e, k, .nil, .nil, h => .inr ⟨by simp, by simpa [setOuts] using h⟩
  | _, _, _, ρ, j, e, k, .none f r, .cons w o, h => by
    rcases setOuts_get r o (by simpa [setOuts] using h) with ⟨a, h1, h2, h3, h4⟩ | ⟨h1, h2⟩
    · exact .inl ⟨a, h1, h2, h3, List.mem_cons_of_mem _ h4⟩
    · exact .inr ⟨by simp [h1], h2⟩
  | _, _, _, ρ, j, e, k, .some (i := i) (a := a) (L := L) hs hr hk hn r, .cons (d := d) (ds := ds) w o, h => by
    have h' : (setOuts L ds (put2 i d ρ))[j]? = some (some (e, k)) := by simpa [setOuts] using h
    rcases setOuts_get (r.put (i := i) (d := d)) o h' with ⟨b, h1, h2, h3, h4⟩ | ⟨h1, h2⟩
    · exact .inl ⟨b, h1, h2, h3, List.mem_cons_of_mem _ h4⟩
    · rcases put2_get h2 with ⟨rfl, rfl, d', q⟩ | ⟨hij, q⟩ | ⟨rfl, _, q⟩
      · rw [hr] at q; cases q
        exact .inl ⟨a, hs, hk, w, List.mem_cons_self⟩
      · refine .inr ⟨?_, q⟩
        simp only [List.mem_cons, not_or]
        exact ⟨fun z => hij (Option.some.inj z).symm, h1⟩
      · exact absurd hr (q _ _)
theorem setOuts_kind : ∀ {L : List (Option Nat)} {as : List Addr} {outs : List D} {ρ : Rho} {j : Nat} {e : D} {k : Kd}, LentR σ ρ L as → OutR K Z F H as outs → (setOuts L outs ρ)[j]? = some (some (e, k)) → ∃ e', ρ[j]? = some (some (e', k))
  | _, _, _, ρ, j, e, k, .nil, .nil, h => ⟨e, by simpa [setOuts] using h⟩
  | _, _, _, ρ, j, e, k, .none f r, .cons w o, h => setOuts_kind r o (by simpa [setOuts] using h)
  | _, _, _, ρ, j, e, k, .some (i := i) (L := L) hs hr hk hn r, .cons (d := d) (ds := ds) w o, h => by
    have h' : (setOuts L ds (put2 i d ρ))[j]? = some (some (e, k)) := by simpa [setOuts] using h
    obtain ⟨e', q⟩ := setOuts_kind (r.put (i := i) (d := d)) o h'
    rcases put2_get q with ⟨rfl, _, d', q⟩ | ⟨hij, q⟩ | ⟨rfl, q, _⟩
    · exact ⟨d', q⟩
    · exact ⟨e', q⟩
    · exact ⟨e', q⟩
def callAt (ms : List Bool) (m : Mir) (as : List Av) (ρ : Rho) : R (D × Bool) :=
  match argsOf ρ ms as with
  | none => .err
  | some p => match m p.1 with
    | .ok d fr outs => .ok (d, fr) (setOuts p.2 outs ρ)
    | .exc c fs outs => .exc c fs (setOuts p.2 outs ρ)
    | .err => .err
def MrC (C : Cq) (Z F : Hp) (σ : St) (ρ : Rho) (L : List (Option Nat)) (as : List Addr) (Q : VK) (E : XK) : Mr → Prop
  | .ok d fr outs => ∀ v F' H', Le F F' → SR C.K C.P Z F' σ (setOuts L outs ρ) H' → OutR C.K Z F' H' as outs → RvR C.K Z F' H' σ (setOuts L outs ρ) v d fr → Q v H'
  | .exc c fs outs => ∀ dd vs F' H', Le F F' → SR C.K C.P Z F' σ (setOuts L outs ρ) H' → F' dd = some (.xd vs) → RelF C.K F' vs fs → E (.ref (He.ga C.K c)) (some dd) H'
  | .err => False
theorem OutR.less {as : List Addr} {outs : List D} (h : ∀ a ∈ as, Z' a = none) : OutR K Z F H as outs → OutR K Z' F H as outs
  | .nil => .nil
  | .cons w r => .cons ⟨w.nf, h _ List.mem_cons_self, w.at_⟩ (OutR.less (fun a ha => h a (List.mem_cons_of_mem _ ha)) r)
theorem call_core {ms : List Bool} {m : Mir} {vs : List V} {as : List Av} {Q : VK} {E : XK} {ds : List D} {L : List (Option Nat)} (S : SR C.K C.P Z F σ ρ H) (r : Avs C.K Z F H σ ρ vs as) (e : argsOf ρ ms as = some (ds, L)) (h : MrC C Z F σ ρ L (muA ms vs) Q E (m ds)) : spM C.K ms m vs H Q E := by
  obtain ⟨h1, h2, h3⟩ := args_ok S r e
  let Zc : Hp := fun b => if (F b).isSome = true ∨ b ∈ muA ms vs then none else match Z b with
    | some z => some z
    | none => match H b with
      | some (.tbl _) => none
      | r => r
  have zcn : ∀ a ∈ muA ms vs, Zc a = none := fun a ha => if_pos (.inr ha)
  have zcf : ∀ a o, Zc a = some o → F a = none := fun b o q => by
    cases z : F b with
    | none => rfl
    | some u =>
      have q' : Zc b = none := if_pos (.inl (by simp [z]))
      rw [q'] at q; cases q
  have zcr : ∀ b, F b = none → b ∉ muA ms vs → Zc b = (match Z b with
    | some z => some z
    | none => match H b with
      | some (.tbl _) => none
      | r => r) := fun b nf nm => if_neg (by simp [nf, nm])
  have zcm : ∀ b o, Zc b = some o → b ∉ muA ms vs := fun b o q hm => by rw [zcn b hm] at q; cases q
  have zch : ZLe Zc H := fun b o q => by
    rw [zcr b (zcf b o q) (zcm b o q)] at q
    cases z : Z b with
    | some u => rw [z] at q; cases q; exact S.zh b _ z
    | none =>
      rw [z] at q
      cases hb : H b with
      | none => rw [hb] at q; cases q
      | some u => cases u with
        | tbl ps => rw [hb] at q; cases q
        | _ => rw [hb] at q; cases q; exact .inl ⟨fun _ => nofun, hb⟩
  have zci : ∀ b o, H b = some o → F b = none → b ∉ muA ms vs → Z b = none → (∀ ps, o ≠ .tbl ps) → Zc b = some o := fun b o q nf nm nz nt => by
    rw [zcr b nf nm, nz]
    show (match H b with | some (.tbl _) => none | r => r) = some o
    rw [q]
    cases o with
    | tbl ps => exact absurd rfl (nt ps)
    | _ => rfl
  have zz : ∀ b o, Z b = some o → Zc b = some o := fun b o q => by
    have nm : b ∉ muA ms vs := fun hm => by
      have := (h3 b hm).2.1
      rw [q] at this; cases this
    rw [zcr b (S.zf b o q) nm, q]
  have back : ∀ {outs : List D} {F' H' : Hp}, Le F F' → Hps C.K Zc F' H' → OutR C.K Zc F' H' (muA ms vs) outs → SR C.K C.P Z F' σ (setOuts L outs ρ) H' := fun {outs F' H'} l hp ho => by
    refine ⟨hp.fh, fun b o q => hp.zh b o (zz b o q), fun b o q => hp.zf b o (zz b o q), S.zt, by rw [setOuts_length]; exact S.len, fun j d k q => ?_, fun i j d e k l a hij hi hj hk hl qi qj => ?_, fun j d q => ?_⟩
    · rcases setOuts_get h2 ho q with ⟨a, hs, hk, w, hm⟩ | ⟨hn, q'⟩
      · refine ⟨_, hs, ?_⟩
        have w' : Own C.K Z F' H' a d := ⟨w.nf, (h3 a hm).2.1, w.at_⟩
        cases k with
        | sh => exact absurd rfl hk
        | ow => exact ⟨a, rfl, w'⟩
        | pin => exact ⟨a, rfl, w'⟩
      · obtain ⟨v, hv, w⟩ := S.sl j d k q'
        refine ⟨v, hv, ?_⟩
        have own : ∀ a, k ≠ .sh → v = .ref a → Own C.K Z F H a d → Own C.K Z F' H' a d := fun a hk e wo => by
          subst e
          obtain ⟨o, ho⟩ := wo.obj_at
          have nm : a ∉ muA ms vs := fun hm => by
            rcases (h3 a hm).2.2.2 with ⟨i, d', k', hi, hs, hr, hk'⟩ | ⟨_, fr⟩
            · by_cases hij : i = j
              · subst hij; exact hn hi
              · exact S.ap i j d' d k' k a hij hr q' hk' hk hs hv
            · exact fr j d k q' hk hv
          have z := zci a o ho wo.nf nm wo.nz (wo.at_.kind ho).1
          exact ⟨hp.zf a o z, wo.nz, wo.at_.move l fun o' e' => by rw [ho] at e'; cases e'; exact (hp.zh a o z).at_ (wo.at_.kind ho).1⟩
        cases k with
        | sh => exact Rel.mono l w
        | ow => obtain ⟨a, e, w⟩ := w; exact ⟨a, e, own a (by decide) e w⟩
        | pin => obtain ⟨a, e, w⟩ := w; exact ⟨a, e, own a (by decide) e w⟩
    · obtain ⟨d', q1⟩ := setOuts_kind h2 ho hi
      obtain ⟨e', q2⟩ := setOuts_kind h2 ho hj
      exact S.ap i j d' e' k l a hij q1 q2 hk hl qi qj
    · obtain ⟨d', q1⟩ := setOuts_kind h2 ho q
      exact S.pn j d' q1
  refine ⟨Zc, F, ds, ⟨S.fh, zch, zcf, S.zt.more zz⟩, h1 Zc zcn, ?_⟩
  cases hm : m ds with
  | err => rw [hm] at h; exact h.elim
  | exc c fs outs =>
    rw [hm] at h
    exact fun dd vs' F' H' l hp ho e1 e2 => h dd vs' F' H' l (back l hp ho) e1 e2
  | ok d fr outs =>
    rw [hm] at h
    intro v F' H' l hp ho res
    refine h v F' H' l (back l hp ho) (ho.less fun a ha => (h3 a ha).2.1) ?_
    cases fr with
    | false => exact res
    | true =>
      obtain ⟨a, rfl, w, nm⟩ := res
      refine ⟨a, rfl, ⟨w.nf, ?_, w.at_⟩, fun j d' k q hk hs => ?_⟩
      · cases z : Z a with
        | none => rfl
        | some o => have := w.nz; rw [zz a o z] at this; cases this
      · rcases setOuts_get h2 ho q with ⟨b, hs', _, _, hb⟩ | ⟨hn, q'⟩
        · rw [hs] at hs'; cases hs'
          exact nm hb
        · obtain ⟨b, e, w'⟩ := own_of_slot S q' hk hs
          cases e
          obtain ⟨o, ho'⟩ := w'.obj_at
          have := w.nz
          rw [zci a o ho' w'.nf nm w'.nz (w'.at_.kind ho').1] at this
          cases this
theorem call_ok {ms : List Bool} {m : Mir} {vs : List V} {as : List Av} {Q : VK} (S : SR C.K C.P Z F σ ρ H) (r : Avs C.K Z F H σ ρ vs as) (h : At C (relE C.K) Z F σ Q (callAt ms m as ρ)) : spM C.K ms m vs H Q (fun cls d H' => C.W cls d σ H') := by
  unfold callAt at h
  cases e : argsOf ρ ms as with
  | none => rw [e] at h; exact h.elim
  | some p =>
    obtain ⟨ds, L⟩ := p
    rw [e] at h
    simp only at h
    refine call_core S r e ?_
    cases hm : m ds with
    | err => rw [hm] at h; exact h.elim
    | exc c fs outs => rw [hm] at h; exact fun dd vs' F' H' l S' e1 e2 => h F' H' dd vs' l S' e1 e2
    | ok d fr outs => rw [hm] at h; exact fun v F' H' l S' _ rv => h F' H' v l S' rv
end Nu
namespace Nu
open PySem PySem.Spec PyProof.Rows L2
variable [WorldI]
variable {C : Cq} {Z Z' F F' H H' : Hp} {σ σ' : St} {ρ ρ' : Rho} {X : Cx} {K : PySem.W.Frag} {P : Nat → Addr}

/-! ## room for a call, with no repr under way: what the kit's own Room does not tell -/
structure Room (k : Nat) (A : Around) : Prop extends L2.Room k A where
  gd : A.guards = some []
theorem Room.mono {j k : Nat} {A : Around} (r : Room k A) (h : j ≤ k) : Room j A := ⟨L2.Room.mono r.toRoom h, r.gd⟩
theorem Room.deeper {k : Nat} {A : Around} (r : Room (k + 1) A) (env : Env) : Room k (A.deeper env) := ⟨L2.Room.deeper r.toRoom env, r.gd⟩
theorem Room.in1 {k : Nat} {A : Around} (r : Room (k + 1) A) : Room k A.in1 := ⟨L2.Room.in1 r.toRoom, r.gd⟩
theorem mk_guards {A : Around} {C : Addr} {us : List Value} {kw : List (Str × Value)} (h : A.guards = some []) : (A.under (.builtin "type.__call__" ⟨.ref C :: us, kw⟩)).guards = some [] := by
  first
    | exact h
    | (simp only [Around.under, h]; rfl)
    | (simp [Around.under, Code.guards, Code.isGuard, guardIds, pushGuards, h])
theorem Room.make {k : Nat} {A : Around} (r : Room (k + 1) A) (C : Addr) (us : List Value) (kw : List (Str × Value)) : Room k (A.under (.builtin "type.__call__" ⟨.ref C :: us, kw⟩)) := ⟨L2.Room.make r.toRoom C us kw, mk_guards r.gd⟩
structure Sub (X : Cx) (n : Nat) (A : Around) : Prop where
  room : Room n A
  fr : A.frames = X.A.frames
theorem Sub.in1 {n : Nat} {A : Around} (s : Sub X (n + 1) A) : Sub X n A.in1 := ⟨s.room.in1, s.fr⟩
structure FnOk (P : Program) (w : World) (K : PySem.W.Frag) (mg : Str → Option Value) (base : Heap) (CX : CXT) (k : Nat) (f : Addr) (fd : FuncData) (ps : List Str) (sp : Sp) : Prop where
  cnt : ∀ vs H Q E, sp vs H Q E → vs.length = ps.length
  run : ∀ (A : Around) (outer : List Env) (s : Shared) (H : Hp) (args : Args) (us : List Value) (vs : List V) (Q : VK) (E : XK), Nu.Room k A → Env0 P w K mg base A outer s H → BindsTo s fd args (ps.zip us) → Vals vs us → sp vs H Q E → codeAny (model P w) A (.call (.ref f) args) (CR CX outer P w H s Q E) s
theorem FnOk.mono {Pg : Program} {w : World} {mg : Str → Option Value} {base : Heap} {CX : CXT} {i j : Nat} {f : Addr} {fd : FuncData} {ps : List Str} {sp : Sp} (G : Nu.FnOk Pg w K mg base CX i f fd ps sp) (h : i ≤ j) : Nu.FnOk Pg w K mg base CX j f fd ps sp :=
  ⟨G.cnt, fun A outer s H args us vs Q E r => G.run A outer s H args us vs Q E (r.mono h)⟩
theorem FnOk.imp {Pg : Program} {w : World} {mg : Str → Option Value} {base : Heap} {CX : CXT} {j : Nat} {f : Addr} {fd : FuncData} {ps : List Str} {sp sp' : Sp} (G : Nu.FnOk Pg w K mg base CX j f fd ps sp) (h : ∀ vs H Q E, sp' vs H Q E → sp vs H Q E) : Nu.FnOk Pg w K mg base CX j f fd ps sp' :=
  ⟨fun vs H Q E q => G.cnt vs H Q E (h vs H Q E q), fun A outer s H args us vs Q E r e b v q => G.run A outer s H args us vs Q E r e b v (h vs H Q E q)⟩
theorem FnOk.textC {Pg : Program} {w : World} {mg : Str → Option Value} {base : Heap} {x qual : Str} {params : Arguments} {body : List Stmt} {scope : Scope} {dvs : List V} {kws : List (Str × V)} {f : Addr} {fd : FuncData} {CX : CXT} {N ps : List Str} {j : Nat} {sp : Sp} (Fd : FunD K x qual params body scope dvs kws f fd) (S : FnScope N ps scope)
    (hc : ∀ vs H Q E, sp vs H Q E → vs.length = ps.length) (hb : ∀ (c : Value) (A : Around) (outer : List Env) (s : Shared) (H : Hp) (vs : List V) (Q : VK) (E : XK), (∃ c0, c = .ref c0 ∧ ∃ oc od fd' osl, K.lookup f = some ⟨oc, od, .func fd', osl⟩ ∧ fd'.code = .ref c0) → Nu.Room j (A.deeper (envOfC qual scope s.heap.objs.size f c)) → sp vs H Q E → ∃ t, PSs (cxOf CX Pg w K mg base N qual scope f c A outer s H E) body t ∧ t { nx := fun _ H' => Q .non H', rt := Q } (start N vs) H) :
    Nu.FnOk Pg w K mg base CX (j + 1) f fd ps sp := by
  obtain ⟨_, _, _, _, _, _, _, c, _, _, rfl, at_f, at_c, _, _⟩ := Fd.ex
  refine ⟨hc, fun A outer s H args us vs Q E room en bnd rel q => ?_⟩
  have old : ∀ b o, base.get? b = some o → s.heap.get? b = some o := fun b o z => (en.bs b o z).1
  have inK : K.In s.heap := en.mod.kin.keeps old
  have kinds : ∀ y ∈ ps.zip us, scope.names.lookup y.1 = some .local ∨ (scope.names.lookup y.1 = some .cell ∧ ((cellsFrom (s.heap.objs.size + 1) scope.names []).lookup y.1).isSome = true) := by
    rintro ⟨y, u⟩ hy
    exact (S.par y (List.of_mem_zip hy).1).imp id fun z => ⟨z, PySem.W.cellsFrom_some _ _ _ (.inl z)⟩
  refine codeAny_call_function (L2.Room.depth room.toRoom) (inK _ _ at_f) rfl S.co S.gen rfl (PySem.W.codeRec_of inK at_c) (bnd _ _ _ _ (wpAny_newFunctionEnv_cells S.kind kinds fun en' he s1 z => ?_))
  subst he
  refine ⟨(en.mod.nolimit.keeps old).keeps z.toInCall.keep, codeAny_func ?_⟩
  have hcode : ∃ c0, c = .ref c0 ∧ ∃ oc od fd' osl, K.lookup f = some ⟨oc, od, .func fd', osl⟩ ∧ fd'.code = .ref c0 := by
    obtain ⟨c0, e⟩ := He.codeIn_ref at_c
    exact ⟨c0, e, _, _, _, _, at_f, e⟩
  obtain ⟨t, T, hq⟩ := hb c A outer s H vs Q E hcode (room.deeper _) q
  have I0 := inv_start (CX := CX) (E := E) S room.hd en (hc _ _ _ _ q) rel z
  refine wpAny_mono (T.run [] s1 (start N vs) H _ I0 hq) (fun fl s' g => ?_) fun _ _ g => g
  cases fl with
  | ret u => obtain ⟨v, σ1, H1, J, rv, q1⟩ := g; exact ⟨v, H1, J.os, J.bare, J.base, J.hok, rv, q1⟩
  | next => obtain ⟨σ1, H1, J, q1⟩ := g; exact ⟨.non, H1, J.os, J.bare, J.base, J.hok, rfl, q1⟩
  | brk => obtain ⟨_, _, _, q1⟩ := g; exact q1.elim
  | cont => obtain ⟨_, _, _, q1⟩ := g; exact q1.elim
theorem FnOk.text {Pg : Program} {w : World} {mg : Str → Option Value} {base : Heap} {x qual : Str} {params : Arguments} {body : List Stmt} {scope : Scope} {dvs : List V} {kws : List (Str × V)} {f : Addr} {fd : FuncData} {CX : CXT} {N ps : List Str} {j : Nat} {sp : Sp} (Fd : FunD K x qual params body scope dvs kws f fd) (S : FnScope N ps scope)
    (hc : ∀ vs H Q E, sp vs H Q E → vs.length = ps.length) (hb : ∀ (c : Value) (A : Around) (outer : List Env) (s : Shared) (H : Hp) (vs : List V) (Q : VK) (E : XK), Nu.Room j (A.deeper (envOfC qual scope s.heap.objs.size f c)) → sp vs H Q E → ∃ t, PSs (cxOf CX Pg w K mg base N qual scope f c A outer s H E) body t ∧ t { nx := fun _ H' => Q .non H', rt := Q } (start N vs) H) :
    Nu.FnOk Pg w K mg base CX (j + 1) f fd ps sp := FnOk.textC Fd S hc fun c A outer s H vs Q E _ => hb c A outer s H vs Q E
/-! ## how a call's values come to the parameters -/
def tailV (zs : List V) : List (Nat ⊕ V) → List V
  | [] => []
  | .inl j :: r => zs.getD j .non :: tailV zs r
  | .inr v :: r => v :: tailV zs r
def tailD (ds : List D) : List (Nat ⊕ D) → Option (List D)
  | [] => some []
  | .inl j :: r => (ds[j]?).bind fun d => (tailD ds r).map (d :: ·)
  | .inr d :: r => (tailD ds r).map (d :: ·)
inductive TlR (K : PySem.W.Frag) : List (Nat ⊕ V) → List (Nat ⊕ D) → Prop
  | nil : TlR K [] []
  | arg {j : Nat} {r : List (Nat ⊕ V)} {r' : List (Nat ⊕ D)} : TlR K r r' → TlR K (.inl j :: r) (.inl j :: r')
  | dfl {v : V} {d : D} {r : List (Nat ⊕ V)} {r' : List (Nat ⊕ D)} : (∀ F, Rel K F v d) → TlR K r r' → TlR K (.inr v :: r) (.inr d :: r')
theorem tail_rels {zs : List V} {ds : List D} (h : Rels K F zs ds) : ∀ {tv : List (Nat ⊕ V)} {td : List (Nat ⊕ D)} {es : List D}, TlR K tv td → tailD ds td = some es → Rels K F (tailV zs tv) es
  | _, _, _, .nil, e => by simp only [tailD, Option.some.injEq] at e; subst e; exact .nil
  | _, _, es, .arg (j := j) (r' := r') t, e => by
    simp only [tailD] at e
    cases q : ds[j]? with
    | none => rw [q] at e; cases e
    | some d =>
      rw [q] at e
      cases q2 : tailD ds r' with
      | none => rw [q2] at e; cases e
      | some es' =>
        rw [q2] at e
        cases e
        obtain ⟨v, hv, w⟩ := h.get q
        have ev : zs.getD j .non = v := by rw [List.getD_eq_getElem?_getD, hv]; rfl
        exact .cons (by rw [ev]; exact w) (tail_rels h t q2)
  | _, _, es, .dfl (d := d) (r' := r') w t, e => by
    simp only [tailD] at e
    cases q2 : tailD ds r' with
    | none => rw [q2] at e; cases e
    | some es' => rw [q2] at e; cases e; exact .cons (w F) (tail_rels h t q2)
structure Bd (K : PySem.W.Frag) (fd : FuncData) (ps : List Str) (n : Nat) (ks : List Str) (tl : List (Nat ⊕ V)) : Prop where
  to : ∀ (s : Shared) (us ws : List Value) (zs : List V), K.In s.heap → us.length = n → ws.length = ks.length → Vals zs ws → ∃ ts, Vals (tailV zs tl) ts ∧ BindsTo s fd ⟨us, ks.zip ws⟩ (ps.zip (us ++ ts))
structure FnV (P : Program) (w : World) (K : PySem.W.Frag) (mg : Str → Option Value) (base : Heap) (k : Nat) (f : Addr) (n : Nat) (ks : List Str) (tl : List (Nat ⊕ D)) (ms : List Bool) (m : Mir) : Prop where
  ex : ∃ fd ps tv, FnOk P w K mg base (L2N.CX P w) k f fd ps (spM K ms m) ∧ Bd K fd ps n ks tv ∧ TlR K tv tl
theorem tmps_vals : ∀ {vs : List V} {as : List Av} {ws : List V} {es : List D}, vs.length = as.length → tmps (vs ++ ws) (as ++ es.map .val) = tmps vs as
  | [], [], [], [], _ => rfl
  | [], [], [], _ :: _, _ => rfl
  | [], [], w :: ws, [], _ => by cases w <;> rfl
  | [], [], w :: ws, e :: es, _ => by
    have := tmps_vals (vs := []) (as := []) (ws := ws) (es := es) rfl
    cases w <;> simpa [tmps] using this
  | v :: vs, a :: as, ws, es, h => by
    have := tmps_vals (vs := vs) (as := as) (ws := ws) (es := es) (by simpa using h)
    cases v <;> cases a <;> simp only [List.cons_append, tmps, this]
theorem Avs.len : ∀ {vs : List V} {as : List Av}, Avs K Z F H σ ρ vs as → vs.length = as.length
  | _, _, .nil => rfl
  | _, _, .val _ r => by simp [r.len]
  | _, _, .var _ r => by simp [r.len]
  | _, _, .tmp _ _ _ r => by simp [r.len]
theorem avs_vals : ∀ {ws : List V} {es : List D}, Rels K F ws es → Avs K Z F H σ ρ ws (es.map .val)
  | _, _, .nil => .nil
  | _, _, .cons h r => .val h (avs_vals r)
theorem Avs.more {ws : List V} {es : List D} (q : Rels K F ws es) : ∀ {vs : List V} {as : List Av}, Avs K Z F H σ ρ vs as → Avs K Z F H σ ρ (vs ++ ws) (as ++ es.map .val)
  | _, _, .nil => avs_vals q
  | _, _, .val h r => .val h (r.more q)
  | _, _, .var h r => .var h (r.more q)
  | _, _, .tmp (vs := vs) (as := as) w f n r => .tmp w f (by
      have e := tmps_vals (ws := ws) (es := es) r.len
      show _ ∉ tmps (vs ++ ws) (as ++ es.map .val)
      rw [e]; exact n) (r.more q)
def CdR (X : Cx) (pins : List (Addr × Obj)) (σ : St) (Q : VK) (r : Result) (s' : Shared) : Prop := match r with
  | .ok (.ret v) => EP X pins σ Q v s'
  | .ok _ => False
  | .error e => X.xe e s'
theorem run_bd {pins : List (Addr × Obj)} {s : Shared} {Q : VK} {us ws : List Value} {vs zs : List V} {k : Nat} {f : Addr} {fd : FuncData} {ps ks : List Str} {n : Nat} {tv : List (Nat ⊕ V)} {sp : Sp} {E : XK} {A : Around} (G : FnOk X.prog X.w X.K X.mg X.base (L2N.CX X.prog X.w) k f fd ps sp) (hr : Room k X.A) (hb : Bd X.K fd ps n ks tv)
    (hx : PassesAt (L2N.CX X.prog X.w) X σ E) (I : Inv X pins σ H s) (r : Vals vs us) (rz : Vals zs ws) (l1 : vs.length = n) (l2 : zs.length = ks.length) (h : sp (vs ++ tailV zs tv) H Q E) : codeAny (model X.prog X.w) X.A (.call (.ref f) ⟨us, ks.zip ws⟩) (CdR X pins σ Q) s := by
  obtain ⟨ts, rt, hbt⟩ := hb.to s us ws zs I.kIn (r.length.symm.trans l1) (rz.length.symm.trans l2) rz
  refine codeAny_mono (G.run X.A X.stack s H ⟨us, ks.zip ws⟩ (us ++ ts) (vs ++ tailV zs tv) Q E hr I.env0 hbt (r.append rt) h) fun r s' hq => ?_
  cases r with
  | error e => exact hx pins H s e s' I hq
  | ok fl =>
    cases fl with
    | ret u => exact I.after hq
    | next => exact False.elim hq
    | brk => exact False.elim hq
    | cont => exact False.elim hq
def sRun (n : Nat) (tl : List (Nat ⊕ D)) (ms : List Bool) (m : Mir) (ds : List D) (as : List Av) (ρ : Rho) : R (D × Bool) :=
  if as.length = n then (match tailD ds tl with
    | some ts => callAt ms m (as ++ ts.map .val) ρ
    | none => .err) else .err
theorem run_fvC {pins : List (Addr × Obj)} {s : Shared} {Q : VK} {us ws : List Value} {vs zs : List V} {as : List Av} {ds : List D} {k : Nat} {f : Addr} {ks : List Str} {n : Nat} {tl : List (Nat ⊕ D)} {ms : List Bool} {m : Mir} (hk : X.K = C.K) (G : FnV X.prog X.w X.K X.mg X.base k f n ks tl ms m) (hr : Room k X.A) (tk : L2N.Takes X C.W)
    (I : Inv X pins σ H s) (S : SR C.K C.P Z F σ ρ H) (r : Vals vs us) (rz : Vals zs ws) (ra : Avs C.K Z F H σ ρ vs as) (rd : Rels C.K F zs ds) (l2 : zs.length = ks.length) (h : At C (relE C.K) Z F σ Q (sRun n tl ms m ds as ρ)) :
    codeAny (model X.prog X.w) X.A (.call (.ref f) ⟨us, ks.zip ws⟩) (CdR X pins σ Q) s := by
  obtain ⟨fd, ps, tv, G, hb, ht⟩ := G.ex
  unfold sRun at h
  by_cases hn : as.length = n
  · rw [if_pos hn] at h
    cases e : tailD ds tl with
    | none => rw [e] at h; exact h.elim
    | some ts =>
      rw [e] at h
      rw [hk] at ht
      have h2 : spM X.K ms m (vs ++ tailV zs tv) H Q (fun cls d H' => C.W cls d σ H') := by
        rw [hk]
        exact call_ok S (ra.more (tail_rels rd ht e)) h
      exact run_bd (A := X.A) G hr hb (L2N.passAt tk σ) I r rz (ra.len.trans hn) l2 h2
  · rw [if_neg hn] at h; exact h.elim
theorem run_fv {pins : List (Addr × Obj)} {s : Shared} {Q : VK} {us ws : List Value} {vs zs : List V} {as : List Av} {ds : List D} {k : Nat} {f : Addr} {ks : List Str} {n : Nat} {tl : List (Nat ⊕ D)} {ms : List Bool} {m : Mir} (hk : X.K = C.K) (G : FnV X.prog X.w X.K X.mg X.base k f n ks tl ms m) (hr : Room k X.A) (tk : L2N.Takes X C.W)
    (I : Inv X pins σ H s) (S : SR C.K C.P Z F σ ρ H) (r : Vals vs us) (rz : Vals zs ws) (ra : Avs C.K Z F H σ ρ vs as) (rd : Rels C.K F zs ds) (l2 : zs.length = ks.length) (h : At C (relE C.K) Z F σ Q (sRun n tl ms m ds as ρ)) :
    wpAny (model X.prog X.w) X.A (call (.ref f) us (ks.zip ws)) (EP X pins σ Q) X.xe s := wpAny_call (run_fvC hk G hr tk I S r rz ra rd l2 h)
section
variable {k : Nat} {f : Addr} {ks : List Str} {n : Nat} {tl : List (Nat ⊕ D)} {ms : List Bool} {m : Mir} {x : Str} {p pos apos : Pos} {e o : Expr} {es : List Expr} {kws : List Keyword} {fa : Rho → R (List Av)} {fk : Rho → R (List Opd)}
def sFnP (n : Nat) (tl : List (Nat ⊕ D)) (ms : List Bool) (m : Mir) (fa : Rho → R (List Av)) (ρ : Rho) : R (D × Bool) := (fa ρ).bind fun as ρ1 => sRun n tl ms m [] as ρ1
theorem de_call (hk : X.K = C.K) (G : FnV X.prog X.w X.K X.mg X.base k f n [] tl ms m) (hr : Room k X.A) (tk : L2N.Takes X C.W) (hg : Gl X x) (hm : X.mg x = some (.ref f)) (hkp : PySem.W.keepIn X.K (.ref f) = true) (ha : PA X (e :: es) (tV C fa)) (hdb : (x == ("__debug__" : Str)) = false := by decide)
    (he : starEach (e :: es) X.env = (false, eval e X.env) :: starEach es X.env := by rfl) (hpl : (backTo pos (starEach es X.env)).any (·.1) = false := by rfl) : PE X (.Call (.Name x p) (e :: es) [] pos) (tE C (sFnP n tl ms m fa)) := by
  refine ⟨fun pins s σ H Q I ⟨Z, F, ρ, S, h⟩ => ?_⟩
  refine wpAny_Call_Name_kw (ld_glob I hg hm ?_ hdb)
  have h1 : tV C fa σ H (fun vs H1 => ∃ F1 ρ1 as, SR C.K C.P Z F1 σ ρ1 H1 ∧ Avs C.K Z F1 H1 σ ρ1 vs as ∧ At C (relE C.K) Z F1 σ Q (sRun n tl ms m [] as ρ1)) := tG.step S h fun as ρ1 F1 H1 vs l S1 r m1 => ⟨F1, ρ1, as, S1, r, m1⟩
  refine PySem.W.callWith_K (h₀ := X.base) I.ok.mod.kin hkp (thn (ha.run pos pins s σ H _ I h1) fun us s1 ⟨vs, H1, I1, r, F1, ρ1, as, S1, ra, m1⟩ => ⟨I1.kIn, ?_⟩) he hpl
  exact run_fv (ws := []) (zs := []) hk G hr tk I1 S1 r .nil ra .nil rfl m1
/-! ### keywords -/
theorem PK.imp {X : Cx} {e : List Keyword} {t t' : TA} (h : PK X e t) (w : ∀ σ H Q, t' σ H Q → t σ H Q) : PK X e t' := ⟨fun pos pins s σ H Q I z => h.run pos pins s σ H Q I (w σ H Q z)⟩
theorem dk_nil : PK X [] (tA C sNil) := PK.imp pk_nil fun σ H Q ⟨Z, F, ρ, S, m⟩ => m F H [] (Evl.Ex.refl F) S .nil
theorem dk_cons {nm : Option Str} {kpos : Pos} {f : Rho → R Opd} {g : Rho → R (List Opd)} (h : PE X e (tO C f)) (h2 : PK X kws (tA C g)) : PK X (⟨nm, e, kpos⟩ :: kws) (tA C (sCons f g)) :=
  PK.imp (pk_cons h h2) fun σ H Q ⟨Z, F, ρ, S, m⟩ => tG.step S m fun o ρ1 F1 H1 v l1 S1 r1 m1 => tG.step S1 m1 fun os ρ2 F2 H2 vs l2 S2 r2 m2 => m2 F2 H2 (v :: vs) (Evl.Ex.refl F2) S2 (.cons (relO.mono (Z := Z) (H := H2) (H' := H2) (ρ := ρ2) (ρ' := ρ2) (K := C.K) l2 r1) r2)
def noTmp : List Av → Bool
  | [] => true
  | .tmp _ :: _ => false
  | _ :: r => noTmp r
theorem Avs.later {F2 H2 : Hp} {ρ2 : Rho} (l : Le F F2) : ∀ {vs : List V} {as : List Av}, noTmp as = true → Avs K Z F H σ ρ vs as → Avs K Z F2 H2 σ ρ2 vs as
  | _, _, _, .nil => .nil
  | _, _, h, .val w r => .val (w.mono l) (Avs.later l (by simpa [noTmp] using h) r)
  | _, _, h, .var w r => .var w (Avs.later l (by simpa [noTmp] using h) r)
  | _, _, h, .tmp _ _ _ _ => by simp [noTmp] at h
def sKw (n nk : Nat) (tl : List (Nat ⊕ D)) (ms : List Bool) (m : Mir) (fk : Rho → R (List Opd)) (as : List Av) (ρ : Rho) : R (D × Bool) :=
  if noTmp as = true then (fk ρ).bind fun os ρ2 => (match vals os with
    | some ds => if ds.length = nk then sRun n tl ms m ds as ρ2 else .err
    | none => .err) else .err
def sFnK (n nk : Nat) (tl : List (Nat ⊕ D)) (ms : List Bool) (m : Mir) (fa : Rho → R (List Av)) (fk : Rho → R (List Opd)) (ρ : Rho) : R (D × Bool) := (fa ρ).bind fun as ρ1 => sKw n nk tl ms m fk as ρ1
end
end Nu
namespace Nu
open PySem PySem.Spec PyProof.Rows L2
variable [WorldI]
variable {C : Cq} {Z Z' F F' H H' : Hp} {σ σ' : St} {ρ ρ' : Rho} {X : Cx} {K : PySem.W.Frag} {P : Nat → Addr}

/-! ## a def of the text -/
theorem fn_body {Pg : Program} {w : World} {mg : Str → Option Value} {base : Heap} {x qual : Str} {params : Arguments} {body : List Stmt} {scope : Scope} {dvs : List V} {kws : List (Str × V)} {f : Addr} {fd : FuncData} {N ps : List Str} {k : Nat} {ms : List Bool} {sem : Rho → Ss}
    (Fd : FunD K x qual params body scope dvs kws f fd) (S : FnScope N ps scope) (hl : ms.length = ps.length)
    (hbody : ∀ (cdv : Value) (A : Around) (outer : List Env) (s : Shared) (H : Hp) (vs : List V) (E : XK), Room k (A.deeper (envOfC qual scope s.heap.objs.size f cdv)) →
      PSs (cxOf (L2N.CX Pg w) Pg w K mg base N qual scope f cdv A outer s H E) body (tS ⟨K, pinA vs, fun cls d _ H => E cls d H⟩ sem)) : FnOk Pg w K mg base (L2N.CX Pg w) (k + 1) f fd ps (spM K ms (bodyM ms N.length sem)) :=
  FnOk.text Fd S (fun vs H Q E h => (spM_len h).trans hl) fun cdv A outer s H vs Q E hr ⟨Z, F, ds, hp, r, wm⟩ => ⟨_, hbody cdv A outer s H vs E hr, body_at hp r wm⟩
theorem FnOk.less {Pg : Program} {w : World} {mg : Str → Option Value} {base : Heap} {CX : CXT} {f : Addr} {fd : FuncData} {ps : List Str} {k : Nat} {ms : List Bool} {m m' : Mir} (G : FnOk Pg w K mg base CX k f fd ps (spM K ms m)) (h : Mle m' m) : FnOk Pg w K mg base CX k f fd ps (spM K ms m') := G.imp (spM_imp h)

/-! ## attributes -/
theorem RelF.put {f : Str} {y : V} {d : D} (h : Rel K F y d) : ∀ {vs : List (Str × V)} {fs : List (Str × D)}, RelF K F vs fs → RelF K F (putF f y vs) (putD f d fs)
  | _, _, .nil => .cons h .nil
  | _, _, .cons (n := n) w r => by
    unfold putF putD
    by_cases e : n = f
    · rw [if_pos e, if_pos e]; exact .cons h r
    · rw [if_neg e, if_neg e]; exact .cons w (RelF.put h r)
def getF (cs : List Str) (f : Str) : D → Option (D × Bool)
  | .obj c fs => if c ∈ cs then (fs.lookup f).map fun d => (d, false) else none
  | _ => none
def sFld (cs : List Str) (f : Str) (fo : Rho → R Opd) (ρ : Rho) : R (D × Bool) := (fo ρ).bind fun o ρ1 => R.of ((peek ρ1 o).bind (getF cs f)) ρ1
def setF (cs : List Str) (i : Nat) (f : Str) (d : D) (ρ : Rho) : Option Rho :=
  match ρ[i]? with
  | some (some (.obj c fs, k)) => if k ≠ .sh ∧ c ∈ cs ∧ fs.length < 1000 then some (ρ.set i (some (.obj c (putD f d fs), k))) else none
  | _ => none
def sSetF (cs : List Str) (i : Nat) (f : Str) (fv : Rho → R (D × Bool)) (ρ : Rho) : Ss := Rx (fv ρ) fun a ρ1 => match setF cs i f a.1 ρ1 with
  | some ρ2 => .nx ρ2
  | none => .err
/-! ## methods -/
structure MI where
  tl : List (Nat ⊕ D)
  ms : List Bool
  m : Mir
def toAv : Opd → Av
  | .val d => .val d
  | .var i => .var i
def mAt (tab : Str → Option MI) (mn : Str) : D → Option MI
  | .obj c fs => if (fs.lookup mn).isSome then none else tab c
  | _ => none
def sMeth (tab : Str → Option MI) (mn : Str) (n : Nat) (fo : Rho → R Opd) (fa : Rho → R (List Av)) (ρ : Rho) : R (D × Bool) :=
  (fo ρ).bind fun o ρ1 => match (peek ρ1 o).bind (mAt tab mn) with
    | some mi => (fa ρ1).bind fun as ρ2 => sRun (n + 1) mi.tl mi.ms mi.m [] (toAv o :: as) ρ2
    | none => .err
def sMethK (tab : Str → Option MI) (mn : Str) (n nk : Nat) (fo : Rho → R Opd) (fa : Rho → R (List Av)) (fk : Rho → R (List Opd)) (ρ : Rho) : R (D × Bool) :=
  (fo ρ).bind fun o ρ1 => match (peek ρ1 o).bind (mAt tab mn) with
    | some mi => (fa ρ1).bind fun as ρ2 => sKw (n + 1) nk mi.tl mi.ms mi.m fk (toAv o :: as) ρ2
    | none => .err
section
variable {k : Nat} {tab : Str → Option MI} {mn : Str} {n : Nat} {ks : List Str} {o e : Expr} {es : List Expr} {kws : List Keyword} {fo : Rho → R Opd} {fa : Rho → R (List Av)} {fk : Rho → R (List Opd)} {pos apos : Pos}
end
end Nu
namespace Nu
open PySem PySem.Spec PyProof.Rows L2
variable [WorldI]
variable {C : Cq} {Z Z' F F' H H' : Hp} {σ σ' : St} {ρ ρ' : Rho} {X : Cx} {K : PySem.W.Frag} {P : Nat → Addr}

/-! ## a new instance -/
theorem Avs.grow (g : Grow F H F H') : ∀ {vs : List V} {as : List Av}, Avs K Z F H σ ρ vs as → Avs K Z F H' σ ρ vs as
  | _, _, .nil => .nil
  | _, _, .val h r => .val h (Avs.grow g r)
  | _, _, .var h r => .var h (Avs.grow g r)
  | _, _, .tmp w f n r => .tmp ⟨w.nf, w.nz, w.at_.move (Evl.Ex.refl F) fun o q => g.hh _ _ q⟩ f n (Avs.grow g r)
theorem Avs.there {a : Addr} : ∀ {vs : List V} {as : List Av}, Avs K Z F H σ ρ vs as → a ∈ tmps vs as → ∃ o, H a = some o
  | _, _, .nil, h => by simp [tmps] at h
  | v :: _, _, .val _ r, h => Avs.there r (by cases v <;> simpa [tmps] using h)
  | v :: _, _, .var _ r, h => Avs.there r (by cases v <;> simpa [tmps] using h)
  | _, _, .tmp w _ _ r, h => by
    simp only [tmps, List.mem_cons] at h
    rcases h with rfl | h
    · exact w.obj_at
    · exact Avs.there r h
def makeAt (c : Str) (ms : List Bool) (m : Mir) (as : List Av) (ρ : Rho) : R (D × Bool) :=
  match argsOf ρ (true :: ms) (.tmp (.obj c []) :: as) with
  | none => .err
  | some p => match m p.1 with
    | .ok .non false (o :: outs) => .ok (o, true) (setOuts p.2 (o :: outs) ρ)
    | .exc e fs outs => .exc e fs (setOuts p.2 outs ρ)
    | _ => .err
structure MkV (X : Cx) (k : Nat) (c : Str) (n : Nat) (ks : List Str) (tl : List (Nat ⊕ D)) (ms : List Bool) (m : Mir) : Prop where
  ex : ∃ f, Mk X.K (He.ga X.K c) f ∧ FnV X.prog X.w X.K X.mg X.base k f (n + 1) ks tl (true :: ms) m
def sMk (c : Str) (n : Nat) (tl : List (Nat ⊕ D)) (ms : List Bool) (m : Mir) (ds : List D) (as : List Av) (ρ : Rho) : R (D × Bool) :=
  if as.length = n then (match tailD ds tl with
    | some ts => makeAt c ms m (as ++ ts.map .val) ρ
    | none => .err) else .err
section
variable {k : Nat} {c : Str} {ks : List Str} {n : Nat} {tl : List (Nat ⊕ D)} {ms : List Bool} {m : Mir} {x : Str} {p pos apos : Pos} {e o : Expr} {es : List Expr} {kws : List Keyword} {fa : Rho → R (List Av)} {fk : Rho → R (List Opd)}
def sMkP (c : Str) (n : Nat) (tl : List (Nat ⊕ D)) (ms : List Bool) (m : Mir) (fa : Rho → R (List Av)) (ρ : Rho) : R (D × Bool) := (fa ρ).bind fun as ρ1 => sMk c n tl ms m [] as ρ1
theorem MkV.kp (G : MkV X k c n ks tl ms m) : PySem.W.keepIn X.K (.ref (He.ga X.K c)) = true := let ⟨_, M, _⟩ := G.ex; M.kp
def sMkK (c : Str) (n nk : Nat) (tl : List (Nat ⊕ D)) (ms : List Bool) (m : Mir) (fa : Rho → R (List Av)) (fk : Rho → R (List Opd)) (ρ : Rho) : R (D × Bool) := (fa ρ).bind fun as ρ1 => if noTmp as = true then (fk ρ1).bind fun os ρ2 => (match vals os with
    | some ds => if ds.length = nk then sMk c n tl ms m ds as ρ2 else .err
    | none => .err) else .err
end
/-! ## an instance is called -/
def cAt (tab : Str → Option MI) : D → Option MI
  | .obj c _ => tab c
  | _ => none
def isObjD : Option D → Bool
  | some (.obj _ _) => true
  | _ => false
def sInst (tab : Str → Option MI) (n : Nat) (fo : Rho → R Opd) (fa : Rho → R (List Av)) (ρ : Rho) : R (D × Bool) :=
  (fo ρ).bind fun o ρ1 => if isObjD (peek ρ1 o) = true then (fa ρ1).bind fun as ρ2 => match (peek ρ2 o).bind (cAt tab) with
    | some mi => sRun (n + 1) mi.tl mi.ms mi.m [] (toAv o :: as) ρ2
    | none => .err else .err
def instK (tab : Str → Option MI) (n nk : Nat) (o : Opd) (os : List Opd) (ρ : Rho) : R (D × Bool) :=
  match (peek ρ o).bind (cAt tab) with
  | some mi => (match vals os with
    | some ds => if ds.length = nk then sRun (n + 1) mi.tl mi.ms mi.m ds [toAv o] ρ else .err
    | none => .err)
  | none => .err
def sInstK (tab : Str → Option MI) (n nk : Nat) (fo : Rho → R Opd) (fk : Rho → R (List Opd)) (ρ : Rho) : R (D × Bool) :=
  (fo ρ).bind fun o ρ1 => if isObjD (peek ρ1 o) = true then (fk ρ1).bind fun os ρ2 => instK tab n nk o os ρ2 else .err
section
variable {k : Nat} {tab : Str → Option MI} {n : Nat} {ks : List Str} {fe e : Expr} {es : List Expr} {kws : List Keyword} {fo : Rho → R Opd} {fa : Rho → R (List Av)} {fk : Rho → R (List Opd)} {pos apos : Pos}
end
end Nu
/-! ## len(set(text)) -/
namespace Nu
open PySem PySem.Spec PyProof.Rows L2
variable [WorldI]
def fstep {α : Type} [DecidableEq α] (acc : List α) (c : α) : List α := if c ∈ acc then acc else acc ++ [c]
def nub {α : Type} [DecidableEq α] (x : List α) : List α := x.foldl fstep []
end Nu
namespace Nu
open PySem PySem.Spec PyProof.Rows L2 SS
variable [WorldI]
section
variable {prog : Program} {w : World} {A : Around} {R : Result → Shared → Prop} {I : Addr} {fp wr : List Addr} {G : Array GenState → Array GenState → Prop} {n : Nat} {P : Nat → Value → Prop} {St : Nat → Shared → Prop}
end
section
variable {prog : Program} {w : World} {A : Around} {E : Value → Shared → Prop} {s : Shared}
end
end Nu
/-! ## enumerate of a tuple, of a text -/
namespace Nu
open PySem
variable [WorldI]
open AutoSeq1 (wpAny_loadPart')
end Nu
namespace Nu
open PySem PySem.Spec PyProof.Rows L2
variable [WorldI]
variable {C : Cq} {Z Z' F F' H H' : Hp} {σ σ' : St} {ρ ρ' : Rho} {X : Cx} {K : PySem.W.Frag}
def enumD (ds : List D) : List D := ds.zipIdx.map fun p => D.tup [.int (p.2 : Nat), p.1]
def chars (x : List Cp) : List D := x.map fun c => D.str [c]
theorem chars_get {x : List Cp} {i : Nat} {d : D} (h : (chars x)[i]? = some d) : ∃ c, x[i]? = some c ∧ d = .str [c] := by
  unfold chars at h
  rw [List.getElem?_map] at h
  cases q : x[i]? with
  | none => rw [q] at h; cases h
  | some c => rw [q] at h; cases h; exact ⟨c, rfl, rfl⟩
theorem toStr_one (c : Cp) : toStr [c] = ⟨#[c.val]⟩ := rfl
theorem toStr_size (x : List Cp) : (toStr x).cps.size = x.length := by simp [toStr]
theorem its_ok {x : List Cp} : ItOk K F (Its (toStr x)) (chars x) := by
  refine ⟨fun F' H i d l l' e => ?_, fun F' H i l l' e => ?_⟩
  · obtain ⟨c, hc, rfl⟩ := chars_get e
    have h1 := sign_get hc
    refine ⟨?_, fun v H' ⟨eH, c', h2, ev⟩ => ?_⟩
    · show i < (toStr x).cps.size
      rw [toStr_size]
      exact (List.getElem?_eq_some_iff.mp hc).1
    · rw [h1] at h2; cases h2
      subst eH ev
      exact ⟨F', Grow.refl l', by rw [← toStr_one]; exact .str [c]⟩
  · show (toStr x).cps.size ≤ i
    rw [toStr_size, e]
    simp [chars]
end Nu
namespace Nu
open PySem PySem.Spec PyProof.Rows L2
variable [WorldI]
variable {C : Cq} {Z Z' F F' H H' : Hp} {σ σ' : St} {ρ ρ' : Rho} {X : Cx} {K : PySem.W.Frag}

/-! ## what is walked, by its kind -/
theorem PI.or {tg e : Expr} {w1 w2 : TI} (h1 : PI X tg e w1) (h2 : PI X tg e w2) : PI X tg e (fun σ H R => w1 σ H R ∨ w2 σ H R) := ⟨fun pins s σ H R I h => h.elim (h1.run pins s σ H R I) (h2.run pins s σ H R I)⟩
def walkD : Opd → Option (List D)
  | .val (.lst ds) => some ds
  | .val (.tup ds) => some ds
  | .val (.scr ds) => some ds
  | .val (.str x) => some (chars x)
  | _ => none
def sIt (f : Rho → R Opd) (ρ : Rho) : R (List D) := (f ρ).bind fun o ρ1 => R.of (walkD o) ρ1
theorem di_seq {tg e : Expr} {f : Rho → R Opd} (hk : X.K = C.K) (h : PE X e (tO C f)) : PI X tg e (tI C (sIt f)) :=
  PI.imp (PI.or (pi_list h) (PI.or (pi_tup h) (pi_str h))) fun σ H Rr ⟨Z, F, ρ, S, m⟩ => by
    have m' : At C (relI C.K) Z F σ Rr ((f ρ).bind fun o ρ1 => R.of (walkD o) ρ1) := m
    cases hf : f ρ with
    | err => rw [hf] at m'; exact m'.elim
    | exc c fs ρ1 => rw [hf] at m'; exact .inl ⟨Z, F, ρ, S, by rw [hf]; exact m'⟩
    | ok o ρ1 =>
      rw [hf] at m'
      cases o with
      | var i => exact m'.elim
      | val d =>
        cases d with
        | lst ds =>
          refine .inl ⟨Z, F, ρ, S, ?_⟩
          rw [hf]
          intro F1 H1 v l S1 r
          cases (show Rel C.K F1 v (.lst ds) from r) with
          | lst q rr =>
            rw [hk]
            exact ⟨_, rfl, ⟨_, .of (S1.fh _ _ q)⟩, m' F1 H1 _ l S1 (itl_ok (.of q) rr)⟩
        | scr ds =>
          refine .inl ⟨Z, F, ρ, S, ?_⟩
          rw [hf]
          intro F1 H1 v l S1 r
          cases (show Rel C.K F1 v (.scr ds) from r) with
          | scr q rr =>
            rw [hk]
            exact ⟨_, rfl, ⟨_, sqL_h S1.fh q⟩, m' F1 H1 _ l S1 (itl_ok q rr)⟩
        | tup ds =>
          refine .inr (.inl ⟨Z, F, ρ, S, ?_⟩)
          rw [hf]
          intro F1 H1 v l S1 r
          cases (show Rel C.K F1 v (.tup ds) from r) with
          | tup q rr =>
            rw [hk]
            exact ⟨_, rfl, ⟨_, sqT_h S1.fh q⟩, m' F1 H1 _ l S1 (itt_ok q rr)⟩
        | str x =>
          refine .inr (.inr ⟨Z, F, ρ, S, ?_⟩)
          rw [hf]
          intro F1 H1 v l S1 r
          cases (show Rel C.K F1 v (.str x) from r)
          exact ⟨_, rfl, m' F1 H1 _ l S1 its_ok⟩
        | _ => exact m'.elim
/-! ### enumerate -/
def enumO : List Opd → Option (List D)
  | [o] => (walkD o).map enumD
  | _ => none
def sEnum (f : Rho → R (List Opd)) (ρ : Rho) : R (List D) := (f ρ).bind fun os ρ1 => R.of (enumO os) ρ1
/-! ## operators by values -/
theorem Op2.or {r r' : R2} {g g' : D → D → Option (D × Bool)} (h : Op2 K r g) (h' : Op2 K r' g') : Op2 K (fun x y H Q => r x y H Q ∨ r' x y H Q) (fun a b => match g a b with
    | some p => some p
    | none => g' a b) := fun F H x y dx dy d fr Q l rx ry e k => by
  cases q : g dx dy with
  | some p => simp only [q] at e; cases e; exact .inl (h F H x y dx dy d fr Q l rx ry q k)
  | none => simp only [q] at e; exact .inr (h' F H x y dx dy d fr Q l rx ry e k)
theorem grow_same {d : D} {v : V} {Q : VK} (l : Le F H) (r : Rel K F v d) (k : ∀ F' H' v, Grow F H F' H' → NewR K H F' H' v d false → Q v H') : Q v H := k F H v (Grow.refl l) r
theorem grow_lst {ds : List D} {vs : List V} {Q : VK} {p : Addr} (l : Le F H) (n : H p = none) (r : Rels K F vs ds) (k : ∀ F' H' v, Grow F H F' H' → NewR K H F' H' v (.lst ds) true → Q v H') : Q (.ref p) (upd H p (.lst vs)) :=
  k F _ _ (Grow.fresh l n) ⟨p, rfl, n, Evl.fresh_back l n, vs, upd_same, r⟩
theorem grow_tup {ds : List D} {vs : List V} {Q : VK} {p : Addr} (l : Le F H) (n : H p = none) (r : Rels K F vs ds) (k : ∀ F' H' v, Grow F H F' H' → NewR K H F' H' v (.tup ds) false → Q v H') : Q (.ref p) (upd H p (.tup vs)) := by
  have g : Grow F H (upd F p (.tup vs)) (upd H p (.tup vs)) := Grow.frz l n
  exact k _ _ _ g (Rel.tup (.of upd_same) (r.mono g.ff))
def gI (C : Int → Int → Bool) (f : Int → Int → D) : D → D → Option (D × Bool)
  | .int i, .int j => if C i j = true then some (f i j, false) else none
  | _, _ => none
theorem op2_I {Cp' : Int → Int → Prop} {Cb : Int → Int → Bool} {g : Int → Int → V} {f : Int → Int → D} (hc : ∀ i j, Cb i j = true → Cp' i j) (hf : ∀ i j F, Rel K F (g i j) (f i j)) : Op2 K (rI Cp' g) (gI Cb f) := fun F H x y dx dy d fr Q l rx ry e k => by
  cases dx with
  | int i =>
    cases dy with
    | int j =>
      have e' : (if Cb i j = true then some (f i j, false) else none) = some (d, fr) := e
      split at e'
      · rename_i h
        cases e'
        exact ⟨i, j, rx.int, ry.int, hc i j h, grow_same l (hf i j F) k⟩
      · cases e'
    | _ => cases e
  | _ => cases e
def gI0 (f : Int → Int → D) : D → D → Option (D × Bool)
  | .int i, .int j => some (f i j, false)
  | _, _ => none
theorem op2_I0 {g : Int → Int → V} {f : Int → Int → D} (hf : ∀ i j F, Rel K F (g i j) (f i j)) : Op2 K (rI0 g) (gI0 f) := fun F H x y dx dy d fr Q l rx ry e k => by
  cases dx with
  | int i =>
    cases dy with
    | int j =>
      cases e
      exact ⟨i, j, rx.int, ry.int, grow_same l (hf i j F) k⟩
    | _ => cases e
  | _ => cases e
theorem toStr_append (x y : List Cp) : toStr x ++ toStr y = toStr (x ++ y) := by
  unfold toStr
  show (⟨(x.map (·.val)).toArray ++ (y.map (·.val)).toArray⟩ : Str) = _
  rw [List.map_append, List.append_toArray]
def gCatS : D → D → Option (D × Bool)
  | .str x, .str y => if x.length + y.length ≤ sizeLine then some (.str (x ++ y), false) else none
  | _, _ => none
def gCatL : D → D → Option (D × Bool)
  | .lst x, .lst y => if x.length + y.length ≤ sizeLine then some (.lst (x ++ y), true) else none
  | _, _ => none
def gCatT : D → D → Option (D × Bool)
  | .tup x, .tup y => if x.length + y.length ≤ sizeLine then some (.tup (x ++ y), false) else none
  | _, _ => none
theorem op2_catS : Op2 K (fun x y H Q => ∃ i j, x = .str i ∧ y = .str j ∧ i.length + j.length ≤ sizeLine ∧ Q (.str (i ++ j)) H) gCatS := fun F H x y dx dy d fr Q l rx ry e k => by
  cases dx with
  | str a =>
    cases dy with
    | str b =>
      have e' : (if a.length + b.length ≤ sizeLine then some (D.str (a ++ b), false) else none) = some (d, fr) := e
      split at e'
      · rename_i h
        cases e'
        refine ⟨_, _, rx.str, ry.str, by rw [toStr_length, toStr_length]; exact h, ?_⟩
        rw [toStr_append]
        exact grow_same l (.str _) k
      · cases e'
    | _ => cases e
  | _ => cases e
theorem op2_catL : Op2 K rCat gCatL := fun F H x y dx dy d fr Q l rx ry e k => by
  cases dx with
  | lst a =>
    cases dy with
    | lst b =>
      have e' : (if a.length + b.length ≤ sizeLine then some (D.lst (a ++ b), true) else none) = some (d, fr) := e
      split at e'
      · rename_i h
        cases e'
        obtain ⟨p, vs, rfl, hp, r1⟩ := rx.lst l
        obtain ⟨q, ws, rfl, hq, r2⟩ := ry.lst l
        exact ⟨p, q, vs, ws, rfl, rfl, hp, hq, by rw [r1.length, r2.length]; exact h, fun t nt => grow_lst l nt (r1.append r2) k⟩
      · cases e'
    | _ => cases e
  | _ => cases e
theorem op2_catT : Op2 K (rCatA K) gCatT := fun F H x y dx dy d fr Q l rx ry e k => by
  cases dx with
  | tup a =>
    cases dy with
    | tup b =>
      have e' : (if a.length + b.length ≤ sizeLine then some (D.tup (a ++ b), false) else none) = some (d, fr) := e
      split at e'
      · rename_i h
        cases e'
        obtain ⟨p, vs, rfl, hp, hpF, r1⟩ := rx.tup l
        obtain ⟨q, ws, rfl, hq, hqF, r2⟩ := ry.tup l
        refine ⟨p, q, vs, ws, rfl, rfl, hp, hq, by rw [r1.length, r2.length]; exact h, fun e => ?_, fun _ e => ?_, fun _ _ t nt => grow_tup l nt (r1.append r2) k⟩
        · subst e
          cases r1
          exact grow_same l (.tup hqF r2) k
        · subst e
          cases r2
          rw [List.append_nil] at k
          exact grow_same l (.tup hpF r1) k
      · cases e'
    | _ => cases e
  | _ => cases e
def gAdd (a b : D) : Option (D × Bool) := match gI0 (fun i j => .int (i + j)) a b with
  | some p => some p
  | none => match gCatS a b with
    | some p => some p
    | none => match gCatL a b with
      | some p => some p
      | none => gCatT a b
@[simp] theorem gAdd_int (i j : Int) : gAdd (.int i) (.int j) = some (.int (i + j), false) := rfl
theorem de_add {f1 f2 : Rho → R Opd} {a b : Expr} {pos : Pos} (hk : X.K = C.K) (ha : PE X a (tO C f1)) (hb : PE X b (tO C f2)) : PE X (.BinOp a .Add b pos) (tE C (sOp2 gAdd f1 f2)) := by
  have h2 : Op2 C.K _ gAdd := Op2.or (op2_I0 (K := C.K) (g := fun i j => .int (i + j)) (f := fun i j => .int (i + j)) fun _ _ _ => .int _) (Op2.or op2_catS (Op2.or op2_catL op2_catT))
  rw [← hk] at h2
  refine de_op2 (OpR.or op_add (OpR.or op_add_str (OpR.or op_cat op_catA))) ?_ ha hb
  rw [hk] at h2 ⊢
  exact h2
def gSub : D → D → Option (D × Bool) := gI0 fun i j => .int (i - j)
@[simp] theorem gSub_int (i j : Int) : gSub (.int i) (.int j) = some (.int (i - j), false) := rfl
def cMod (_ j : Int) : Bool := decide (0 < j)
def gMod : D → D → Option (D × Bool) := gI cMod fun i j => .int (i % j)
theorem gMod_int {i j : Int} (h : 0 < j) : gMod (.int i) (.int j) = some (.int (i % j), false) := by simp [gMod, gI, cMod, h]
theorem de_mod {f1 f2 : Rho → R Opd} {a b : Expr} {pos : Pos} (ha : PE X a (tO C f1)) (hb : PE X b (tO C f2)) : PE X (.BinOp a .Mod b pos) (tE C (sOp2 gMod f1 f2)) := de_op2 op_mod (op2_I (fun _ _ h => of_decide_eq_true h) fun _ _ _ => .int _) ha hb
def cDiv (_ j : Int) : Bool := decide (0 < j ∧ j < 1073741824)
def gDiv : D → D → Option (D × Bool) := gI cDiv fun i j => .int (i / j)
theorem gDiv_int {i j : Int} (h : 0 < j ∧ j < 1073741824) : gDiv (.int i) (.int j) = some (.int (i / j), false) := by simp [gDiv, gI, cDiv, h]
theorem de_div {f1 f2 : Rho → R Opd} {a b : Expr} {pos : Pos} (ha : PE X a (tO C f1)) (hb : PE X b (tO C f2)) : PE X (.BinOp a .FloorDiv b pos) (tE C (sOp2 gDiv f1 f2)) := de_op2 op_fdiv (op2_I (fun i j h => (show CDiv i j from (of_decide_eq_true h : 0 < j ∧ j < 1073741824))) fun _ _ _ => .int _) ha hb
def cPow (i j : Int) : Bool := decide (0 ≤ j ∧ j ≤ 1000000 ∧ i.natAbs < 2 ^ 64)
def gPow : D → D → Option (D × Bool) := gI cPow fun i j => .int (i ^ j.toNat)
theorem de_pow {f1 f2 : Rho → R Opd} {a b : Expr} {pos : Pos} (ha : PE X a (tO C f1)) (hb : PE X b (tO C f2)) : PE X (.BinOp a .Pow b pos) (tE C (sOp2 gPow f1 f2)) := de_op2 op_pow (op2_I (fun i j h => (show CPow i j from (of_decide_eq_true h : 0 ≤ j ∧ j ≤ 1000000 ∧ i.natAbs < 2 ^ 64))) fun _ _ _ => .int _) ha hb
/-! ### comparisons of ints -/
def gLt : D → D → Option (D × Bool) := gI0 fun i j => .bl (decide (i < j))
def gLe : D → D → Option (D × Bool) := gI0 fun i j => .bl (decide (i ≤ j))
def gGt : D → D → Option (D × Bool) := gI0 fun i j => .bl (decide (j < i))
def gGe : D → D → Option (D × Bool) := gI0 fun i j => .bl (decide (j ≤ i))
@[simp] theorem gLt_int (i j : Int) : gLt (.int i) (.int j) = some (.bl (decide (i < j)), false) := rfl
@[simp] theorem gLe_int (i j : Int) : gLe (.int i) (.int j) = some (.bl (decide (i ≤ j)), false) := rfl
@[simp] theorem gGt_int (i j : Int) : gGt (.int i) (.int j) = some (.bl (decide (j < i)), false) := rfl
@[simp] theorem gGe_int (i j : Int) : gGe (.int i) (.int j) = some (.bl (decide (j ≤ i)), false) := rfl
theorem o_lt : Op2 K (rI0 fun i j => .bl (decide (i < j))) gLt := op2_I0 fun _ _ _ => .bl _
theorem o_gt : Op2 K (rI0 fun i j => .bl (decide (j < i))) gGt := op2_I0 fun _ _ _ => .bl _
theorem o_ge : Op2 K (rI0 fun i j => .bl (decide (j ≤ i))) gGe := op2_I0 fun _ _ _ => .bl _
end Nu
namespace Nu
open PySem PySem.Spec PyProof.Rows L2
variable [WorldI]
variable {C : Cq} {Z Z' F F' H H' : Hp} {σ σ' : St} {ρ ρ' : Rho} {X : Cx} {K : PySem.W.Frag}

/-! ## data as plain data -/
mutual
def toPy : D → Option PyData
  | .non => some .none
  | .bl b => some (.bool b)
  | .int i => some (.int i)
  | .str x => some (.str (toStr x))
  | .tup ds => (toPys ds).map .tuple
  | .lst ds => (toPys ds).map .list
  | .scr ds => (toPys ds).map .list
  | .ty _ => none
  | .cls _ => none
  | .obj _ _ => none
  | .exc _ _ _ => none
  | .emp => none
  | .adr _ => none
  | .fix _ _ => none
  | .err _ _ => none
  | .dic _ => none
def toPys : List D → Option (List PyData)
  | [] => some []
  | d :: r => (toPy d).bind fun x => (toPys r).map (x :: ·)
end
mutual
theorem Rel.dp (l : Le F H) : ∀ {v : V} {d : D} {p : PyData}, Rel K F v d → toPy d = some p → Dp K H v p
  | _, _, _, .non, e => by unfold toPy at e; cases e; exact .non
  | _, _, _, .bl b, e => by unfold toPy at e; cases e; exact .bl b
  | _, _, _, .int i, e => by unfold toPy at e; cases e; exact .int i
  | _, _, _, .str x, e => by unfold toPy at e; cases e; exact .str _
  | _, _, _, .ty n, e => by unfold toPy at e; cases e
  | _, _, _, .cls n, e => by unfold toPy at e; cases e
  | _, _, _, .tup h r, e => by
    unfold toPy at e
    obtain ⟨q, e1, e2⟩ := Option.map_eq_some_iff.mp e
    subst e2
    exact .tup (sqT_h l h) (Rels.dp l r e1)
  | _, _, _, .lst h r, e => by
    unfold toPy at e
    obtain ⟨q, e1, e2⟩ := Option.map_eq_some_iff.mp e
    subst e2
    exact .lst (.of (l _ _ h)) (Rels.dp l r e1)
  | _, _, _, .scr h r, e => by
    unfold toPy at e
    obtain ⟨q, e1, e2⟩ := Option.map_eq_some_iff.mp e
    subst e2
    exact .lst (sqL_h l h) (Rels.dp l r e1)
  | _, _, _, .obj _ _, e => by unfold toPy at e; cases e
  | _, _, _, .exc _ _, e => by unfold toPy at e; cases e
  | _, _, _, .emp _, e => by unfold toPy at e; cases e
  | _, _, _, .adr, e => by unfold toPy at e; cases e
  | _, _, _, .fix _, e => by unfold toPy at e; cases e
  | _, _, _, .err _ _ _, e => by unfold toPy at e; cases e
  | _, _, _, .err0 _, e => by unfold toPy at e; cases e
  | _, _, _, .dic _ _ _ _, e => by unfold toPy at e; cases e
theorem Rels.dp (l : Le F H) : ∀ {v : List V} {d : List D} {p : List PyData}, Rels K F v d → toPys d = some p → DpAll K H v p
  | _, _, _, .nil, e => by unfold toPys at e; cases e; exact .nil
  | _, _, _, .cons h r, e => by
    unfold toPys at e
    obtain ⟨q, e1, e2⟩ := Option.bind_eq_some_iff.mp e
    obtain ⟨q2, e3, e4⟩ := Option.map_eq_some_iff.mp e2
    subst e4
    exact .cons (Rel.dp l h e1) (Rels.dp l r e3)
end
theorem Rl.dp {v : V} {d : D} {p : PyData} (l : Le F H) (h : Rl K F H v d) (e : toPy d = some p) : Dp K H v p := by
  rcases h with h | ⟨a, rfl, w⟩
  · exact h.dp l e
  · cases d with
    | lst ds =>
      obtain ⟨vs, q, r⟩ := w
      unfold toPy at e
      obtain ⟨p', e1, e2⟩ := Option.map_eq_some_iff.mp e
      subst e2
      exact .lst (.of q) (r.dp l e1)
    | obj c fs => unfold toPy at e; cases e
    | dic es => unfold toPy at e; cases e
    | _ => exact w.elim
def pyOf (d : D) : Option PyData := (toPy d).bind fun p => if SeqAt.shaped p = true then some p else none
theorem Rl.py {v : V} {d : D} {p : PyData} (l : Le F H) (h : Rl K F H v d) (e : pyOf d = some p) : Dp K H v p ∧ SeqAt.shaped p = true := by
  unfold pyOf at e
  obtain ⟨q, e1, e2⟩ := Option.bind_eq_some_iff.mp e
  split at e2
  · rename_i hs
    cases e2
    exact ⟨h.dp l e1, hs⟩
  · cases e2
def gEq (a b : D) : Option (D × Bool) := (pyOf a).bind fun x => (pyOf b).map fun y => (.bl (PyData.eqv x y), false)
def gNe (a b : D) : Option (D × Bool) := (pyOf a).bind fun x => (pyOf b).map fun y => (.bl (!PyData.eqv x y), false)
theorem o_eq : Op2 K (rEqD K) gEq := fun F H x y dx dy d fr Q l rx ry e k => by
  obtain ⟨p, e1, e2⟩ := Option.bind_eq_some_iff.mp e
  obtain ⟨q, e3, e4⟩ := Option.map_eq_some_iff.mp e2
  cases e4
  exact ⟨p, q, (rx.py l e1).1, (ry.py l e3).1, (rx.py l e1).2, (ry.py l e3).2, grow_same l (.bl _) k⟩
theorem o_ne : Op2 K (rNeD K) gNe := fun F H x y dx dy d fr Q l rx ry e k => by
  obtain ⟨p, e1, e2⟩ := Option.bind_eq_some_iff.mp e
  obtain ⟨q, e3, e4⟩ := Option.map_eq_some_iff.mp e2
  cases e4
  exact ⟨p, q, (rx.py l e1).1, (ry.py l e3).1, (rx.py l e1).2, (ry.py l e3).2, grow_same l (.bl _) k⟩
/-! ### is None, is True -/
def isNon : D → Bool
  | .non => true
  | _ => false
theorem Rl.isNon {v : V} {d : D} (h : Rl K F H v d) : decide (v = .non) = isNon d := by
  cases d with
  | non => rw [h.non]; rfl
  | _ =>
    refine decide_eq_false fun e => ?_
    subst e
    rcases h with h | ⟨a, e, w⟩
    · cases h
    · cases e
def gIs : D → D → Option (D × Bool)
  | a, .non => some (.bl (isNon a), false)
  | .bl a, .bl b => some (.bl (decide (a = b)), false)
  | _, _ => none
def gNot : D → D → Option (D × Bool)
  | a, .non => some (.bl (!isNon a), false)
  | .bl a, .bl b => some (.bl (!decide (a = b)), false)
  | _, _ => none
abbrev rIs1 : R2 := fun x y H Q => (y = .non ∧ Q (.bl (decide (x = .non))) H) ∨ ∃ a b, x = .bl a ∧ y = .bl b ∧ Q (.bl (decide (a = b))) H
abbrev rNot1 : R2 := fun x y H Q => (y = .non ∧ Q (.bl (!decide (x = .non))) H) ∨ ∃ a b, x = .bl a ∧ y = .bl b ∧ Q (.bl (!decide (a = b))) H
/-! ### in -/
def flD : D → Bool
  | .non => true
  | .bl _ => true
  | .int _ => true
  | .str _ => true
  | _ => false
def vD : D → V
  | .bl b => .bl b
  | .int i => .int i
  | .str x => .str (toStr x)
  | _ => .non
theorem vD_flat (d : D) : flatV (vD d) = true := by cases d <;> rfl
theorem Rl.flat {v : V} {d : D} (h : Rl K F H v d) (e : flD d = true) : v = vD d := by
  cases d with
  | non => exact h.non
  | bl b => exact h.bl
  | int b => exact h.int
  | str b => exact h.str
  | _ => cases e
theorem Rels.flat : ∀ {vs : List V} {ds : List D}, Rels K F vs ds → ds.all flD = true → vs = ds.map vD
  | _, _, .nil, _ => rfl
  | _, _, .cons h r, e => by
    rw [List.all_cons, Bool.and_eq_true] at e
    rw [List.map_cons, ← Rl.flat (H := F) (.inl h) e.1, ← Rels.flat r e.2]
def inD (x : D) (ds : List D) : Bool := inV (vD x) (ds.map vD)
def gInS (x : D) (z : List Cp) : Option (D × Bool) := match x with
  | .str [c] => some (.bl (decide (c ∈ z)), false)
  | _ => none
def gIn (x y : D) : Option (D × Bool) := match y with
  | .str z => gInS x z
  | .tup ds => if flD x = true ∧ ds.all flD = true then some (.bl (inD x ds), false) else none
  | .lst ds => if flD x = true ∧ ds.all flD = true then some (.bl (inD x ds), false) else (pyOf x).bind fun p => (pyOf (.lst ds)).bind fun q => match q with
    | .list qs => some (.bl (qs.any fun z => PyData.eqv z p), false)
    | _ => none
  | _ => none
abbrev rIn1 (K : PySem.W.Frag) : R2 := fun x y H Q => (∃ (c : Nat) (z : Str), x = .str ⟨#[c]⟩ ∧ y = .str z ∧ Q (.bl (decide (c ∈ z.cps.toList))) H) ∨ rIn K false x y H Q ∨ rInD K x y H Q
abbrev rNi1 (K : PySem.W.Frag) : R2 := fun x y H Q => (∃ (c : Nat) (z : Str), x = .str ⟨#[c]⟩ ∧ y = .str z ∧ Q (.bl (!decide (c ∈ z.cps.toList))) H) ∨ rIn K true x y H Q ∨ rNotInD K x y H Q
theorem toStr_list (z : List Cp) : (toStr z).cps.toList = z.map (·.val) := by unfold toStr; simp
def gNi (a b : D) : Option (D × Bool) := match gIn a b with
  | some (.bl r, _) => some (.bl (!r), false)
  | _ => none
/-! ### times -/
theorem op_mulS : OpR X (binaryOp .Mult) (fun x y H Q => ∃ z k, x = .str z ∧ y = .int k ∧ MulOk z k ∧ Q (.str (Txt.mul z k)) H) := by
  intro pins s σ H x y v u Q I rx ry h
  obtain ⟨z, k, rfl, rfl, hk, q⟩ := h
  obtain ⟨t, rfl⟩ := rx
  obtain ⟨t', rfl⟩ := ry
  exact SB.mul hk fun t2 k2 => ⟨.str _, H, I.tok _, ⟨_, rfl⟩, q⟩
def repS (x : List Cp) (n : Int) : List Cp := (List.replicate n.toNat x).flatten
theorem foldl_app (a : Array Nat) : ∀ (n : Nat) (b : Array Nat), (List.replicate n a).foldl (· ++ ·) b = b ++ ((List.replicate n a.toList).flatten).toArray
  | 0, b => by simp
  | n + 1, b => by
    rw [List.replicate_succ, List.foldl_cons, foldl_app a n, List.replicate_succ, List.flatten_cons]
    apply Array.ext'
    simp
theorem mul_toStr (x : List Cp) (n : Int) : Txt.mul (toStr x) n = toStr (repS x n) := by
  unfold Txt.mul repS
  split
  · rename_i h
    rw [show n.toNat = 0 by omega]
    rfl
  · rename_i h
    split
    · rename_i h2
      rw [Bool.or_eq_true] at h2
      rcases h2 with h2 | h2
      · rw [beq_iff_eq] at h2
        rw [h2]
        simp
      · rw [beq_iff_eq, toStr_length] at h2
        rw [List.length_eq_zero_iff] at h2
        rw [h2]
        congr 1
        generalize n.toNat = m
        induction m with
        | zero => rfl
        | succ m ih => rw [List.replicate_succ, List.flatten_cons, ← ih]; rfl
    · unfold toStr
      congr 1
      rw [foldl_app]
      simp [List.map_flatten]
def gMul : D → D → Option (D × Bool)
  | .int i, .int j => if (i.natAbs < 2 ^ 64 ∨ j.natAbs < 2 ^ 64) then some (.int (i * j), false) else none
  | .str x, .int j => if j.natAbs < 2 ^ 20 ∧ x.length < 2 ^ 20 ∧ x.length * j.toNat ≤ sizeLine then some (.str (repS x j), false) else none
  | .lst ds, .int j => if j.natAbs < 2 ^ 20 ∧ ds.length * j.toNat ≤ sizeLine then some (.lst (List.replicate j.toNat ds).flatten, true) else none
  | _, _ => none
theorem Rels.rep {vs : List V} {ds : List D} (r : Rels K F vs ds) (n : Nat) : Rels K F (List.replicate n vs).flatten (List.replicate n ds).flatten := by
  induction n with
  | zero => exact .nil
  | succ n ih => rw [List.replicate_succ, List.replicate_succ, List.flatten_cons, List.flatten_cons]; exact r.append ih
end Nu
namespace Nu
open PySem PySem.Spec PyProof.Rows L2
variable [WorldI]
variable {C : Cq} {Z Z' F F' H H' : Hp} {σ σ' : St} {ρ ρ' : Rho} {X : Cx} {K : PySem.W.Frag}

/-! ## subscripts and slices -/
theorem Rels.at {vs : List V} {ds : List D} {i : Int} {d : D} (r : Rels K F vs ds) (e : atI ds i = some d) : ∃ v, atI vs i = some v ∧ Rel K F v d := by
  unfold atI at e ⊢
  obtain ⟨j, e1, e2⟩ := Option.bind_eq_some_iff.mp e
  obtain ⟨v, h1, h2⟩ := r.get e2
  exact ⟨v, by rw [r.length, e1]; exact h1, h2⟩
def gIx (a b : D) : Option (D × Bool) := match a, b with
  | .lst ds, .int i => (atI ds i).map fun d => (d, false)
  | .tup ds, .int i => (atI ds i).map fun d => (d, false)
  | .scr ds, .int i => (atI ds i).map fun d => (d, false)
  | .str z, .int i => if z.length ≤ sizeLine then (atI z i).map fun c => (.str [c], false) else none
  | _, _ => none
theorem o_ix : Op2 K (rIx K) gIx := fun F H x y dx dy d fr Q l rx ry e k => by
  cases dy with
  | int i =>
    cases dx with
    | lst ds =>
      obtain ⟨d', e1, e2⟩ := Option.map_eq_some_iff.mp (show (atI ds i).map (fun d => (d, false)) = some (d, fr) from e)
      cases e2
      obtain ⟨a, vs, rfl, ha, rr⟩ := rx.lst l
      obtain ⟨v, h1, h2⟩ := rr.at e1
      exact .inl ⟨a, vs, i, v, rfl, ry.int, .of ha, h1, grow_same l h2 k⟩
    | scr ds =>
      obtain ⟨d', e1, e2⟩ := Option.map_eq_some_iff.mp (show (atI ds i).map (fun d => (d, false)) = some (d, fr) from e)
      cases e2
      obtain ⟨a, vs, rfl, ha, rr⟩ := rx.scr l
      obtain ⟨v, h1, h2⟩ := rr.at e1
      exact .inl ⟨a, vs, i, v, rfl, ry.int, ha, h1, grow_same l h2 k⟩
    | tup ds =>
      obtain ⟨d', e1, e2⟩ := Option.map_eq_some_iff.mp (show (atI ds i).map (fun d => (d, false)) = some (d, fr) from e)
      cases e2
      obtain ⟨a, vs, rfl, ha, _, rr⟩ := rx.tup l
      obtain ⟨v, h1, h2⟩ := rr.at e1
      exact .inr (.inl ⟨a, vs, i, v, rfl, ry.int, ha, h1, grow_same l h2 k⟩)
    | str z =>
      have e' : (if z.length ≤ sizeLine then (atI z i).map fun c => (D.str [c], false) else none) = some (d, fr) := e
      split at e'
      · rename_i hz
        obtain ⟨c, e1, e2⟩ := Option.map_eq_some_iff.mp e'
        cases e2
        refine .inr (.inr ⟨toStr z, i, c.val, rx.str, ry.int, by rw [toStr_length]; exact hz, ?_, ?_⟩)
        · rw [toStr_list]
          unfold atI at e1 ⊢
          obtain ⟨j, e2, e3⟩ := Option.bind_eq_some_iff.mp e1
          rw [List.length_map, e2]
          show (z.map (·.val))[j]? = _
          rw [List.getElem?_map, e3]
          rfl
        · rw [← toStr_one]
          exact grow_same l (.str _) k
      · cases e'
    | _ => cases e
  | _ => cases dx <;> cases e
def cutD {α : Type} (xs : List α) (lo hi : Option Int) : List α := (xs.drop (HT.sIx xs.length 0 lo)).take (HT.sIx xs.length xs.length hi - HT.sIx xs.length 0 lo)
theorem Rels.cut {vs : List V} {ds : List D} (r : Rels K F vs ds) (lo hi : Option Int) : Rels K F (cutV vs lo hi) (cutD ds lo hi) := by
  unfold cutV cutD
  rw [r.length]
  exact (r.drop _).take _
theorem cut_toStr (z : List Cp) (lo hi : Option Int) : cutS (toStr z) lo hi = toStr (cutD z lo hi) := by
  unfold cutS cutD
  rw [toStr_length, toStr_list]
  unfold toStr
  rw [List.map_take, List.map_drop]
def gSl (a : D) (lo hi : Option Int) : Option (D × Bool) := match a with
  | .str z => if z.length ≤ sizeLine then some (.str (cutD z lo hi), false) else none
  | .lst ds => some (.lst (cutD ds lo hi), true)
  | .scr ds => some (.lst (cutD ds lo hi), true)
  | .tup ds => some (.tup (cutD ds lo hi), false)
  | _ => none
abbrev rSl1 (K : PySem.W.Frag) : V → Option Int → Option Int → Hp → VK → Prop := fun x lo hi H Q => rSlS x lo hi H Q ∨ rSlL K x lo hi H Q ∨ rSlA K x lo hi H Q
theorem SlR.or {r r' : V → Option Int → Option Int → Hp → VK → Prop} (h : L2.SlR X r) (h' : L2.SlR X r') : L2.SlR X (fun x lo hi H Q => r x lo hi H Q ∨ r' x lo hi H Q) := by
  intro pins s σ H x v vl vu lo hi sl Q I rx hs pl pu z
  exact z.elim (h pins s σ H x v vl vu lo hi sl Q I rx hs pl pu) (h' pins s σ H x v vl vu lo hi sl Q I rx hs pl pu)
theorem sl_1 : L2.SlR X (rSl1 X.K) := SlR.or sl_str (SlR.or sl_list sl_tupA)
theorem o_sl : OpSl K (rSl1 K) gSl := fun F H x dx d lo hi fr Q l rx e k => by
  cases dx with
  | str z =>
    have e' : (if z.length ≤ sizeLine then some (D.str (cutD z lo hi), false) else none) = some (d, fr) := e
    split at e'
    · rename_i hz
      cases e'
      refine .inl ⟨toStr z, rx.str, by rw [toStr_length]; exact hz, ?_⟩
      rw [cut_toStr]
      exact grow_same l (.str _) k
    · cases e'
  | lst ds =>
    cases e
    obtain ⟨a, vs, rfl, ha, rr⟩ := rx.lst l
    exact .inr (.inl ⟨a, vs, rfl, .of ha, fun p np => grow_lst l np (rr.cut lo hi) k⟩)
  | scr ds =>
    cases e
    obtain ⟨a, vs, rfl, ha, rr⟩ := rx.scr l
    exact .inr (.inl ⟨a, vs, rfl, ha, fun p np => grow_lst l np (rr.cut lo hi) k⟩)
  | tup ds =>
    cases e
    obtain ⟨a, vs, rfl, ha, hf, rr⟩ := rx.tup l
    refine .inr (.inr ⟨a, vs, rfl, ha, fun w => ?_, fun _ p np => grow_tup l np (rr.cut lo hi) k⟩)
    have e2 : cutD ds lo hi = ds := by
      unfold cutD
      rw [← rr.length, w.1, w.2, List.drop_zero, Nat.sub_zero, rr.length, List.take_length]
    rw [e2] at k
    exact grow_same l (.tup hf rr) k
  | _ => cases e
/-! ## built-in functions -/
theorem rls1 {vs : List V} {d : D} (h : Rls K F H vs [d]) : ∃ v, vs = [v] ∧ Rl K F H v d := by
  cases h with
  | cons a b => cases b; exact ⟨_, rfl, a⟩
theorem rls2 {vs : List V} {d e : D} (h : Rls K F H vs [d, e]) : ∃ v w, vs = [v, w] ∧ Rl K F H v d ∧ Rl K F H w e := by
  cases h with
  | cons a b => cases b with | cons b c => cases c; exact ⟨_, _, rfl, a, b⟩
def gLen : List D → Option (D × Bool)
  | [.str z] => if z.length ≤ sizeLine then some (.int z.length, false) else none
  | [.lst ds] => some (.int ds.length, false)
  | [.scr ds] => some (.int ds.length, false)
  | [.tup ds] => some (.int ds.length, false)
  | _ => none
theorem o_len : OpN K (fun xs H Q => ∃ x n, xs = [x] ∧ LenV K x H n ∧ Q (.int n) H) gLen := fun F H xs ds d fr Q l r e k => by
  match ds, r, e with
  | [dx], r, e =>
    obtain ⟨v, rfl, rv⟩ := rls1 r
    cases dx with
    | str z =>
      have e' : (if z.length ≤ sizeLine then some (D.int z.length, false) else none) = some (d, fr) := e
      split at e'
      · rename_i hz
        cases e'
        refine ⟨_, z.length, rfl, ?_, grow_same l (.int _) k⟩
        rw [rv.str]
        exact ⟨by rw [toStr_length]; exact hz, (toStr_length z).symm⟩
      · cases e'
    | lst ds =>
      cases e
      obtain ⟨a, vs, rfl, ha, rr⟩ := rv.lst l
      exact ⟨_, _, rfl, .inl ⟨vs, .of ha, rr.length.symm⟩, grow_same l (.int _) k⟩
    | scr ds =>
      cases e
      obtain ⟨a, vs, rfl, ha, rr⟩ := rv.scr l
      exact ⟨_, _, rfl, .inl ⟨vs, ha, rr.length.symm⟩, grow_same l (.int _) k⟩
    | tup ds =>
      cases e
      obtain ⟨a, vs, rfl, ha, _, rr⟩ := rv.tup l
      exact ⟨_, _, rfl, .inr ⟨vs, ha, rr.length.symm⟩, grow_same l (.int _) k⟩
    | _ => cases e
  | [], _, e => cases e
  | dx :: _ :: _, _, e => cases dx <;> cases e
def gInt : List D → Option (D × Bool)
  | [.int i] => some (.int i, false)
  | [.bl b] => some (.int (if b then 1 else 0), false)
  | _ => none
theorem o_int : OpN K (fun xs H Q => (∃ i, xs = [V.int i] ∧ Q (.int i) H) ∨ ∃ k, xs = [V.bl k] ∧ Q (.int (if k then 1 else 0)) H) gInt := fun F H xs ds d fr Q l r e k => by
  match ds, r, e with
  | [.int i], r, e =>
    obtain ⟨v, rfl, rv⟩ := rls1 r
    cases e
    exact .inl ⟨i, by rw [rv.int], grow_same l (.int _) k⟩
  | [.bl b], r, e =>
    obtain ⟨v, rfl, rv⟩ := rls1 r
    cases e
    exact .inr ⟨b, by rw [rv.bl], grow_same l (.int _) k⟩
def gAbs : List D → Option (D × Bool)
  | [.int i] => some (.int (if i < 0 then -i else i), false)
  | _ => none
theorem o_abs : OpN K (fun xs H Q => ∃ i, xs = [V.int i] ∧ Q (.int (if i < 0 then -i else i)) H) gAbs := fun F H xs ds d fr Q l r e k => by
  match ds, r, e with
  | [.int i], r, e =>
    obtain ⟨v, rfl, rv⟩ := rls1 r
    cases e
    exact ⟨i, by rw [rv.int], grow_same l (.int _) k⟩
def gMax : List D → Option (D × Bool)
  | [.int i, .int j] => some (.int (if j > i then j else i), false)
  | _ => none
def gMin : List D → Option (D × Bool)
  | [.int i, .int j] => some (.int (if j < i then j else i), false)
  | _ => none
theorem o_max : OpN K (fun xs H Q => ∃ i j, xs = [V.int i, V.int j] ∧ Q (.int (if j > i then j else i)) H) gMax := fun F H xs ds d fr Q l r e k => by
  match ds, r, e with
  | [.int i, .int j], r, e =>
    obtain ⟨v, w, rfl, rv, rw'⟩ := rls2 r
    cases e
    exact ⟨i, j, by rw [rv.int, rw'.int], grow_same l (.int _) k⟩
theorem o_min : OpN K (fun xs H Q => ∃ i j, xs = [V.int i, V.int j] ∧ Q (.int (if j < i then j else i)) H) gMin := fun F H xs ds d fr Q l r e k => by
  match ds, r, e with
  | [.int i, .int j], r, e =>
    obtain ⟨v, w, rfl, rv, rw'⟩ := rls2 r
    cases e
    exact ⟨i, j, by rw [rv.int, rw'.int], grow_same l (.int _) k⟩
def bools : List D → Option (List Bool)
  | [] => some []
  | .bl b :: r => (bools r).map (b :: ·)
  | _ :: _ => none
theorem Rels.bools : ∀ {vs : List V} {ds : List D} {bs : List Bool}, Rels K F vs ds → Nu.bools ds = some bs → vs = bs.map V.bl
  | _, _, _, .nil, e => by cases e; rfl
  | _, _, _, .cons (d := .bl b) (ds := ds) h r, e => by
    obtain ⟨q, e1, e2⟩ := Option.map_eq_some_iff.mp (show (Nu.bools ds).map (b :: ·) = _ from e)
    cases e2
    cases h
    rw [Rels.bools r e1]
    rfl
  | _, _, _, .cons (d := .non) _ _, e => by cases e
  | _, _, _, .cons (d := .int _) _ _, e => by cases e
  | _, _, _, .cons (d := .str _) _ _, e => by cases e
  | _, _, _, .cons (d := .ty _) _ _, e => by cases e
  | _, _, _, .cons (d := .cls _) _ _, e => by cases e
  | _, _, _, .cons (d := .tup _) _ _, e => by cases e
  | _, _, _, .cons (d := .lst _) _ _, e => by cases e
  | _, _, _, .cons (d := .scr _) _ _, e => by cases e
  | _, _, _, .cons (d := .obj _ _) _ _, e => by cases e
@[simp] theorem bools_map (bs : List Bool) : bools (bs.map D.bl) = some bs := by
  induction bs with
  | nil => rfl
  | cons b r ih => rw [List.map_cons, bools, ih]; rfl
def gAll : List D → Option (D × Bool)
  | [.lst ds] => (bools ds).map fun bs => (.bl (bs.all id), false)
  | _ => none
theorem o_all : OpN K (rAll K) gAll := fun F H xs ds d fr Q l r e k => by
  match ds, r, e with
  | [.lst ds], r, e =>
    obtain ⟨v, rfl, rv⟩ := rls1 r
    obtain ⟨bs, e1, e2⟩ := Option.map_eq_some_iff.mp (show (bools ds).map (fun bs => (D.bl (bs.all id), false)) = some (d, fr) from e)
    cases e2
    obtain ⟨a, vs, rfl, ha, rr⟩ := rv.lst l
    exact ⟨a, bs, rfl, by rw [← rr.bools e1]; exact .of ha, grow_same l (.bl _) k⟩
def intsOf : List D → Option (List Int)
  | [] => some []
  | .int b :: r => (intsOf r).map (b :: ·)
  | _ :: _ => none
theorem Rels.intsOf : ∀ {vs : List V} {ds : List D} {bs : List Int}, Rels K F vs ds → Nu.intsOf ds = some bs → vs = bs.map V.int
  | _, _, _, .nil, e => by cases e; rfl
  | _, _, _, .cons (d := .int b) (ds := ds) h r, e => by
    obtain ⟨q, e1, e2⟩ := Option.map_eq_some_iff.mp (show (Nu.intsOf ds).map (b :: ·) = _ from e)
    cases e2
    cases h
    rw [Rels.intsOf r e1]
    rfl
  | _, _, _, .cons (d := .non) _ _, e => by cases e
  | _, _, _, .cons (d := .bl _) _ _, e => by cases e
  | _, _, _, .cons (d := .str _) _ _, e => by cases e
  | _, _, _, .cons (d := .ty _) _ _, e => by cases e
  | _, _, _, .cons (d := .cls _) _ _, e => by cases e
  | _, _, _, .cons (d := .tup _) _ _, e => by cases e
  | _, _, _, .cons (d := .lst _) _ _, e => by cases e
  | _, _, _, .cons (d := .scr _) _ _, e => by cases e
  | _, _, _, .cons (d := .obj _ _) _ _, e => by cases e
@[simp] theorem intsOf_map (bs : List Int) : intsOf (bs.map D.int) = some bs := by
  induction bs with
  | nil => rfl
  | cons b r ih => rw [List.map_cons, intsOf, ih]; rfl
/-! ### list(..), tuple(..) -/
abbrev rList1 (K : PySem.W.Frag) : List V → Hp → VK → Prop := fun xs H Q => (∃ p ys, xs = [V.ref p] ∧ (SqL K H p ys ∨ SqT K H p ys) ∧ ∀ l, H l = none → Q (.ref l) (upd H l (.lst ys))) ∨ ∃ z : Str, xs = [V.str z] ∧ z.length ≤ sizeLine ∧ ∀ l, H l = none → Q (.ref l) (upd H l (.lst (z.cps.toList.map fun c => V.str ⟨#[c]⟩)))
/-! ### isinstance of built-in types -/
def tyD : D → Option String
  | .non => some "NoneType"
  | .bl _ => some "bool"
  | .int _ => some "int"
  | .str _ => some "str"
  | .tup _ => some "tuple"
  | .lst _ => some "list"
  | .scr _ => some "list"
  | .emp => some "dict"
  | _ => none
def isT (t u : String) : Option Bool :=
  if t = u then some true else if t = "bool" ∧ u = "int" then some true else
  if t ∈ ["NoneType", "bool", "int", "str", "tuple", "list", "dict"] ∧ u ∈ ["bool", "int", "str", "tuple", "list"] then some false else none
theorem isT_ok {t u : String} {b : Bool} (e : isT t u = some b) : PySem.W.kitOne K (.type t) (.type u) = some b := by
  unfold isT at e
  split at e
  · rename_i h
    subst h
    cases e
    unfold PySem.W.kitOne
    rw [if_pos (by simp)]
  · split at e
    · rename_i h
      obtain ⟨rfl, rfl⟩ := h
      cases e
      kernel_rfl
    · rename_i hne hb
      split at e
      · rename_i h
        cases e
        simp only [List.mem_cons, List.mem_nil_iff, or_false] at h
        obtain ⟨h1, h2⟩ := h
        rcases h1 with rfl | rfl | rfl | rfl | rfl | rfl | rfl <;> rcases h2 with rfl | rfl | rfl | rfl | rfl <;>
          first | exact absurd rfl hne | exact absurd ⟨rfl, rfl⟩ hb | kernel_rfl
      · cases e
def gIsi : List D → Option (D × Bool)
  | [x, .ty u] => (tyD x).bind fun t => (isT t u).map fun b => (.bl b, false)
  | _ => none
end Nu
namespace Nu
open PySem PySem.Spec PyProof.Rows L2
variable [WorldI]
variable {C : Cq} {Z Z' F F' H H' : Hp} {σ σ' : St} {ρ ρ' : Rho} {X : Cx} {K : PySem.W.Frag}

/-! ## mutators on owned lists -/
def OpM (K : PySem.W.Frag) (r : V → List V → Hp → VK → Prop) (g : D → List D → Option (D × D)) : Prop :=
  ∀ (F H : Hp) (a : Addr) (xs : List V) (dx : D) (ds : List D) (res new : D) (Q : VK), Le F H → F a = none → OwnO K F H a dx → Rels K F xs ds → g dx ds = some (res, new) → (∀ o' v, OwnO K F (upd H a o') a new → Rel K F v res → Q v (upd H a o')) → r (.ref a) xs H Q
def isLst : Option (Option (D × Kd)) → Bool
  | some (some (.lst _, k)) => decide (k ≠ .sh)
  | _ => false
def mutAt (g : D → List D → Option (D × D)) (i : Nat) (ρ : Rho) (ds : List D) : Option (D × Rho) :=
  match ρ[i]? with
  | some (some (d, k)) => if k = .sh then none else (g d ds).map fun p => (p.1, ρ.set i (some (p.2, k)))
  | _ => none
def sMut (g : D → List D → Option (D × D)) (i : Nat) (fa : Rho → R (List Opd)) (ρ : Rho) : R (D × Bool) :=
  if isLst ρ[i]? = true then (fa ρ).bind fun os ρ1 => match (vals os).bind (mutAt g i ρ1) with
    | some p => .ok (p.1, false) p.2
    | none => .err
  else .err
theorem mut_core {r : V → List V → Hp → VK → Prop} {g : D → List D → Option (D × D)} {i : Nat} {os : List Opd} {vs : List V} {v : V} {Q : VK} (ho : OpM C.K r g) (S : SR C.K C.P Z F σ ρ H) (hv : σ[i]? = some (some v)) (ro : Ops C.K F σ vs os)
    (m : At C (relE C.K) Z F σ Q (match (vals os).bind (mutAt g i ρ) with
    | some p => .ok (p.1, false) p.2
    | none => .err)) : r v vs H Q := by
  cases e : (vals os).bind (mutAt g i ρ) with
  | none => rw [e] at m; exact m.elim
  | some p =>
    rw [e] at m
    obtain ⟨ds, e1, e2⟩ := Option.bind_eq_some_iff.mp e
    unfold mutAt at e2
    split at e2
    · rename_i d k hi
      split at e2
      · cases e2
      · rename_i hk
        obtain ⟨q, e3, e4⟩ := Option.map_eq_some_iff.mp e2
        subst e4
        obtain ⟨a, rfl, ow⟩ := own_of_slot S hi hk hv
        exact ho F H a vs d ds q.1 q.2 Q S.fh ow.nf ow.at_ (vals_rels ro e1) e3 fun o' w new rw' => m F _ w (Evl.Ex.refl F) (S.put hi hk hv new) rw'
    · cases e2
theorem de_mut {r : V → List V → Hp → VK → Prop} {g : D → List D → Option (D × D)} {id : String} {name : Str} {i : Nat} {o e : Expr} {es : List Expr} {fa : Rho → R (List Opd)} {apos cpos : Pos} (slot : Slot "list" name id) (hty : typeOf (.builtin id) = pure (.type "method_descriptor")) (hm : MtM X id r) (h2 : OpM C.K r g) (ho : PE X o (tVar i)) (ha : PA X (e :: es) (tA C fa))
    (hbase : attributeBase o name X.env (eval o X.env) = eval o X.env := by rfl)
    (hfew : ((backTo cpos (starEach (e :: es) X.env)).all (fun x => !x.1) && (backToKw cpos (keywordEach [] X.env)).all (fun x => x.1.isSome)
      && decide ((e :: es).length + ([] : List Keyword).length + (if ([] : List Keyword).isEmpty then 0 else 1) < 30)) = true := by rfl)
    (hline : (apos.endLine == cpos.line) = true := by rfl) (hs : starEach (e :: es) X.env = (false, eval e X.env) :: starEach es X.env := by rfl) (hplain : (backTo cpos (starEach es X.env)).any (·.1) = false := by rfl) :
    PE X (.Call (.Attribute o name apos) (e :: es) [] cpos) (tE C (sMut g i fa)) :=
  PE.imp (pe_bm PySem.F.plainAttrs_list slot hty hm ho ha hbase hfew hline hs hplain) fun σ H Q ⟨Z, F, ρ, S, m⟩ => by
    unfold sMut at m
    split at m
    · rename_i hl
      unfold isLst at hl
      split at hl
      · rename_i ds k hi
        have hk : k ≠ .sh := of_decide_eq_true hl
        obtain ⟨v, hv, _⟩ := S.sl i _ _ hi
        obtain ⟨a, rfl, ow⟩ := own_of_slot S hi hk hv
        obtain ⟨vs, ha', _⟩ := ow.at_
        exact ⟨_, hv, .inl ⟨rfl, vs, .of ha'⟩, tG.step S m fun os ρ1 F1 H1 ws l S1 ro m1 => mut_core h2 S1 hv ro m1⟩
      · cases hl
    · exact m.elim
theorem rels1 {vs : List V} {d : D} (h : Rels K F vs [d]) : ∃ v, vs = [v] ∧ Rel K F v d := by
  cases h with
  | cons a b => cases b; exact ⟨_, rfl, a⟩
section
variable {i : Nat} {o e : Expr} {fa : Rho → R (List Opd)} {apos cpos : Pos}
end
/-! ## xs[i] = v -/
def setIx (i : Nat) (x d : D) (ρ : Rho) : Option Rho :=
  match ρ[i]?, x with
  | some (some (.lst ds, k)), .int n => if k = .sh then none else (ixN ds.length n).map fun j => ρ.set i (some (.lst (ds.set j d), k))
  | _, _ => none
def sSetIx (i : Nat) (fi fv : Rho → R (D × Bool)) (ρ : Rho) : Ss := Rx (fv ρ) fun a ρ1 => if isLst ρ1[i]? = true then Rx (fi ρ1) fun b ρ2 => (match setIx i b.1 a.1 ρ2 with
  | some ρ3 => .nx ρ3
  | none => .err) else .err
theorem rv_int' {i : Int} {b : Bool} {v : V} (S : SR K C.P Z F σ ρ H) (h : RvR K Z F H σ ρ v (.int i) b) : v = .int i := by
  cases b with
  | false => cases (show Rel K F v (.int i) from h); rfl
  | true => obtain ⟨a, _, w, _⟩ := h; exact w.at_.elim
theorem ds_setIx {i : Nat} {o ix value : Expr} {fi fv : Rho → R (D × Bool)} {pos pos' : Pos} (ho : PE X o (tVar i)) (hi : PE X ix (tE C fi)) (hv : PE X value (tE C fv)) (hs : swapsWithSole [.Subscript o ix pos'] value pos.line X.env = pure false := by rfl)
    (hw : swappedStores [.Subscript o ix pos'] value X.env = pure none := by rfl) (h1 : (assignEach [.Subscript o ix pos'] X.env).map (·.2) = [assign (.Subscript o ix pos') X.env] := by rfl)
    (ha : ∀ v, assign (.Subscript o ix pos') X.env v = (do
      let ov ← holding [v] (eval o X.env)
      let iv ← holding [v, ov] (eval ix X.env)
      standAt pos'
      holding [v, ov, iv] (setItem ov iv v)
      release [v, ov, iv] []) := by intro _; rfl) : PS X (.Assign [.Subscript o ix pos'] value pos) (tS C (sSetIx i fi fv)) :=
  PS.imp (ps_asg hv (pg_sub ho hi set_list ha) hs hw h1) fun E σ H ⟨Z, F, ρ, S, m⟩ => tG.stepS S m fun a ρ1 F1 H1 v l S1 r m1 => by
    obtain ⟨F2, l2, S2, w⟩ := RvR.share S1 r
    split at m1
    case isFalse => exact m1.elim
    rename_i hl
    have key : ∀ v', σ[i]? = some (some v') → tG C (relE C.K) fi σ H1 fun iv H2 => rSetL v' iv v H2 fun H3 => E.nx σ H3 := fun v' hv' =>
      tG.stepS S2 (AtS.mono l2 m1) fun b ρ2 F3 H3 iv l3 S3 rb m2 => by
        cases e : setIx i b.1 a.1 ρ2 with
        | none => simp only [e] at m2; exact m2.elim
        | some ρ3 =>
          simp only [e] at m2
          obtain ⟨bd, bf⟩ := b
          unfold setIx at e
          split at e
          · rename_i ds k n hi' hb
            split at e
            · cases e
            · rename_i hk
              obtain ⟨j, e1, e2⟩ := Option.map_eq_some_iff.mp e
              subst e2
              obtain ⟨p, rfl, ow⟩ := own_of_slot S3 hi' hk hv'
              obtain ⟨vs, hp, rr⟩ := ow.at_
              have hb' : bd = .int n := hb
              subst hb'
              refine ⟨p, vs, n, j, rfl, rv_int' S3 rb, hp, by rw [rr.length]; exact e1, ?_⟩
              exact m2 F3 _ σ (Evl.Ex.refl F3) (S3.put hi' hk hv' ⟨_, upd_same, rr.set (w.mono l3) j⟩)
          · cases e
    unfold isLst at hl
    split at hl
    · rename_i ds k hi'
      obtain ⟨v', hv', _⟩ := S2.sl i _ _ hi'
      exact ⟨v', hv', key v' hv'⟩
    · cases hl
/-! ## a, b = x, y -/
def sPar (i j : Nat) (g : Rho → R (List Opd)) (ρ : Rho) : Ss := Rx (g ρ) fun os ρ1 => match vals os with
  | some [d, e] => (match (put1 i d ρ1).bind (put1 j e) with
    | some ρ2 => .nx ρ2
    | none => .err)
  | _ => .err
theorem SR.put1 {P : Nat → Addr} {i : Nat} {d : D} {v : V} (S : SR K P Z F σ ρ H) (r : Rel K F v d) (e : Nu.put1 i d ρ = some ρ') : SR K P Z F (σ.set i (some v)) ρ' H := by
  unfold Nu.put1 at e
  split at e
  · cases e
  · rename_i h
    cases e
    exact S.store (b := false) r (by simpa using h)
def sPar3 (i j l : Nat) (g : Rho → R (List Opd)) (ρ : Rho) : Ss := Rx (g ρ) fun os ρ1 => match vals os with
  | some [d, e, f] => (match ((put1 i d ρ1).bind (put1 j e)).bind (put1 l f) with
    | some ρ2 => .nx ρ2
    | none => .err)
  | _ => .err
/-! ## join -/
def joinL {α : Type} (s : List α) : List (List α) → List α
  | [] => []
  | [x] => x
  | x :: r => x ++ s ++ joinL s r
def strsOf : List D → Option (List (List Cp))
  | [] => some []
  | .str b :: r => (strsOf r).map (b :: ·)
  | _ :: _ => none
@[simp] theorem strsOf_map (bs : List (List Cp)) : strsOf (bs.map D.str) = some bs := by
  induction bs with
  | nil => rfl
  | cons b r ih => rw [List.map_cons, strsOf, ih]; rfl
def gJoin (a b : D) : Option (D × Bool) := match a, b with
  | .str s, .lst ds => (strsOf ds).bind fun bs => if (bs.map (·.length)).sum + bs.length * s.length ≤ 16777216 then some (.str (joinL s bs), false) else none
  | .str s, .tup ds => (strsOf ds).bind fun bs => if (bs.map (·.length)).sum + bs.length * s.length ≤ 16777216 then some (.str (joinL s bs), false) else none
  | _, _ => none
def sJoin (f g : Rho → R Opd) (ρ : Rho) : R (D × Bool) := (f ρ).bind fun o ρ1 => match o with
  | .val (.str s) => (g ρ1).bind fun o2 ρ2 => R.of ((peek ρ2 o2).bind (gJoin (.str s))) ρ2
  | _ => .err
/-! ## len(set(text)) -/
def sLenSet (f : Rho → R Opd) (ρ : Rho) : R (D × Bool) := (f ρ).bind fun o ρ1 => match o with
  | .val (.str z) => if z.length < 4000 then .ok (.int (nub z).length, false) ρ1 else .err
  | _ => .err
end Nu
namespace Nu
open PySem PySem.Spec PyProof.Rows L2
variable [WorldI]
variable {C : Cq} {Z Z' F F' H H' : Hp} {σ σ' : St} {ρ ρ' : Rho} {X : Cx} {K : PySem.W.Frag}

/-! ## constants -/
def lit (s : String) : List Cp := s.toList.map fun c => ⟨c.toNat, by
  have := c.valid
  unfold UInt32.isValidChar Nat.isValidChar at this
  show c.val.toNat < 1114112
  omega⟩
theorem toStr_lit (s : String) : toStr (lit s) = Str.ofString s := by
  rw [Str.ofString_eq_toList]
  unfold toStr lit
  rw [List.map_map]
  rfl
theorem de_str {s : String} {j : Nat} {pos : Pos} : PE X (.Constant (.str (Str.ofString s)) j pos) (tE C (sC (.str (lit s)))) := de_c pe_str fun F => by rw [← toStr_lit]; exact .str _
theorem de_int {i : Int} {j : Nat} {pos : Pos} : PE X (.Constant (.int i) j pos) (tE C (sC (.int i))) := de_c pe_int fun F => .int i
theorem de_bl {b : Bool} {j : Nat} {pos : Pos} : PE X (.Constant (.bool b) j pos) (tE C (sC (.bl b))) := de_c pe_bl fun F => .bl b
theorem de_non {j : Nat} {pos : Pos} : PE X (.Constant .none j pos) (tE C (sC .non)) := de_c pe_non fun F => .non
theorem de_gint {x : Str} {i : Int} {pos : Pos} (hg : Gl X x) (hm : ∃ t, X.mg x = some (.int i t)) (hd : (x == ("__debug__" : Str)) = false := by decide) : PE X (.Name x pos) (tE C (sC (.int i))) := by
  obtain ⟨t, ht⟩ := hm
  exact de_c (v := .int i) (pe_glob hg ht ⟨t, rfl⟩ hd) fun F => .int i
/-! ## contexts -/
theorem takes_cx {P : Program} {w : World} {K : PySem.W.Frag} {mg : Str → Option Value} {base : Heap} {N : List Str} {qual : Str} {scope : Scope} {f : Addr} {cd : Value} {A : Around} {outer : List Env} {s : Shared} {H : Hp} {E : XK} :
    L2N.Takes (cxOf (L2N.CX P w) P w K mg base N qual scope f cd A outer s H E) (fun cls d _ H => E cls d H) := L2N.takes_of rfl rfl rfl rfl
theorem own_cx {CX : CXT} {P : Program} {w : World} {K : PySem.W.Frag} {mg : Str → Option Value} {base : Heap} {N : List Str} {qual : Str} {scope : Scope} {f : Addr} {cd : Value} {A : Around} {outer : List Env} {s : Shared} {H : Hp} {E : XK} :
    PassesOwn (model P w) (cxOf CX P w K mg base N qual scope f cd A outer s H E).A (cxOf CX P w K mg base N qual scope f cd A outer s H E).env (cxOf CX P w K mg base N qual scope f cd A outer s H E).xe := by
  exact PassesOwn.leaving
theorem takes_in {X : Cx} : L2N.Takes X (fun _ _ _ _ => False) := fun u s' ⟨a, B, sI, pins, σ, H, cls, d, e, I, nb, up, sky, na, os, ag, w⟩ => w.elim
/-! ## binding -/
inductive Tl where | kw (j : Nat) | df (j : Nat) | ko (j : Nat)
def Tl.v (dvs mz : List V) : Tl → Nat ⊕ V
  | .kw j => .inl j
  | .df j => .inr (dvs.getD j .non)
  | .ko j => .inr (mz.getD j .non)
def Tl.u (ws its mv : List Value) : Tl → Value
  | .kw j => ws.getD j .none
  | .df j => its.getD j .none
  | .ko j => mv.getD j .none
theorem vals_getD {xs : List V} {us : List Value} (h : Vals xs us) (j : Nat) : RelV (xs.getD j .non) (us.getD j .none) := by
  rw [List.getD_eq_getElem?_getD, List.getD_eq_getElem?_getD]
  cases e : xs[j]? with
  | none =>
    have : us[j]? = none := by rw [List.getElem?_eq_none_iff] at e ⊢; rw [← h.length]; exact e
    rw [this]
    rfl
  | some v =>
    obtain ⟨u, hu, r⟩ := h.get e
    rw [hu]
    exact r
theorem tail_vals {zs dvs mz : List V} {ws its mv : List Value} (r1 : Vals zs ws) (r2 : Vals dvs its) (r3 : Vals mz mv) : ∀ ts : List Tl, Vals (tailV zs (ts.map (Tl.v dvs mz))) (ts.map (Tl.u ws its mv))
  | [] => .nil
  | .kw j :: r => .cons (vals_getD r1 j) (tail_vals r1 r2 r3 r)
  | .df j :: r => .cons (vals_getD r2 j) (tail_vals r1 r2 r3 r)
  | .ko j :: r => .cons (vals_getD r3 j) (tail_vals r1 r2 r3 r)
section
variable {x qual : Str} {params : Arguments} {body : List Stmt} {scope : Scope} {dvs : List V} {kws : List (Str × V)} {f : Addr} {fd : FuncData} {ps ks : List Str} {n : Nat}
theorem bdN (F : FunD K x qual params body scope [] kws f fd) (ts : List Tl)
    (h : ∀ (kV doc pm : Value) (an : Option Addr) (cdv ct : Value) (us ws : List Value), us.length = n → ws.length = ks.length → bindArgs (PySem.W.fnOf x qual params body scope .none kV doc pm an cdv ct) ⟨us, ks.zip ws⟩ = pure (ps.zip (us ++ ts.map (Tl.u ws [] [])))) : Bd K fd ps n ks (ts.map (Tl.v [] [])) := by
  obtain ⟨oc, od, dV, kV, doc, pm, an, cdv, ct, osl, rfl, lk, hcd, hD, hK⟩ := F.ex
  rcases hD with ⟨_, rfl⟩ | ⟨e, _⟩
  · exact ⟨fun s us ws zs X l1 l2 rz => ⟨_, tail_vals rz .nil .nil ts, .of_eq (h kV doc pm an cdv ct us ws l1 l2)⟩⟩
  · exact absurd rfl e
end
/-! ## the head's facts -/
theorem Hk.Says.all {h : Hk} (c : h.Says K) : (h.fs.all fun f => f K) = true ∧ (h.fn.all fun d => d.ok K) = true ∧ (h.cm.all fun d => okC K d) = true := by
  obtain ⟨h1, h2⟩ := He.ba (show ((h.fs.all fun f => f K) && ((h.fn.all fun d => d.ok K) && h.cm.all fun d => okC K d)) = true from congrArg (fun z : He.AlD => z.1) c)
  obtain ⟨h3, h4⟩ := He.ba h2
  exact ⟨h1, h3, h4⟩
theorem Hk.Says.fact {h : Hk} (c : h.Says K) (i : Nat) {f : PySem.W.Frag → Bool} (e : h.fs[i]? = some f := by rfl) : f K = true := List.all_eq_true.mp c.all.1 f (List.mem_of_getElem? e)
theorem Hk.Says.two {h : Hk} (c : h.Says K) : h.fn.map (fun d => He.fnW K d.at_) = h.fn.map He.DefD.val ∧ h.cm.map (fun d => fnC K d) = h.cm.map He.DefD.val :=
  List.append_inj (show (h.fn.map fun d => He.fnW K d.at_) ++ (h.cm.map fun d => fnC K d) = h.fn.map He.DefD.val ++ h.cm.map He.DefD.val from congrArg (fun z : He.AlD => z.2) c) (by simp)
theorem Hk.Says.def_ {h : Hk} (c : h.Says K) (i : Nat) {d : He.DefD} (e : h.fn[i]? = some d := by rfl) : ∃ fd, FunD K d.name d.qual d.params d.body d.scope (d.dvs K) (d.kws K) (He.fAd K d.at_) fd := by
  have e2 : (h.fn.map fun d => He.fnW K d.at_)[i]? = (h.fn.map He.DefD.val)[i]? := by rw [c.two.1]
  rw [List.getElem?_map, List.getElem?_map, e] at e2
  exact He.DefD.funD (Option.some.inj e2) (List.all_eq_true.mp c.all.2.1 d (List.mem_of_getElem? e))
end Nu
namespace Nu
open PySem PySem.Spec PyProof.Rows L2
variable [WorldI]
variable {X : Cx} {K : PySem.W.Frag}
theorem hu64 {A : Around} {k : Nat} (hr : Room k A) : A.units + 64 < cLine := Nat.lt_of_le_of_lt (by omega) hr.un
theorem rels_ints {F : Hp} : ∀ ns : List Int, Rels K F (ns.map V.int) (ns.map D.int)
  | [] => .nil
  | n :: ns => .cons (.int n) (rels_ints ns)
def zTab (K : PySem.W.Frag) : Hp := fun b => ((lamNames.filter (isFnc K)).find? fun x => (He.cT K (x, none)).2 == b).map fun x => mark (lamQ x)
theorem find_nodup {α β : Type} [BEq β] [LawfulBEq β] {f : α → β} : ∀ {l : List α} {x : α}, (l.map f).Nodup → x ∈ l → l.find? (fun y => f y == f x) = some x
  | y :: l, x, n, h => by
    rw [List.map_cons, List.nodup_cons] at n
    rw [List.find?_cons]
    cases e : f y == f x with
    | true =>
      rcases List.mem_cons.mp h with z | z
      · rw [z]
      · exact absurd (List.mem_map.mpr ⟨x, z, (eq_of_beq e).symm⟩) n.1
    | false =>
      rcases List.mem_cons.mp h with z | z
      · subst z; rw [beq_self_eq_true] at e; cases e
      · exact find_nodup n.2 z
theorem zTab_at {K : PySem.W.Frag} (n : ((lamDefs K).map fun p => (He.cT K p).2).Nodup) : Tabs0 K (zTab K) := fun x h1 h2 => by
  unfold zTab
  have n2 : ((lamNames.filter (isFnc K)).map fun x => (He.cT K (x, none)).2).Nodup := by
    unfold lamDefs at n
    rw [List.map_map] at n
    exact n
  rw [find_nodup (f := fun x => (He.cT K (x, none)).2) n2 (List.mem_filter.mpr ⟨h1, h2⟩)]
  rfl
theorem zTab_of {K : PySem.W.Frag} {b : Addr} {o : HO} (e : zTab K b = some o) : ∃ x, (x, none) ∈ lamDefs K ∧ b = (He.cT K (x, none)).2 ∧ o = mark (lamQ x) := by
  obtain ⟨x, h1, h2⟩ := Option.map_eq_some_iff.mp e
  have h3 := List.find?_some h1
  exact ⟨x, List.mem_map.mpr ⟨x, List.mem_of_find?_eq_some h1, rfl⟩, (eq_of_beq h3).symm, h2.symm⟩
theorem law_sp {m : Mir} {H : Hp} {a : Addr} {ns : List Int} (hS : SqL K H a (ns.map V.int)) (na : zTab K a = none) (n : ((lamDefs K).map fun p => (He.cT K p).2).Nodup) (hT : ∀ p ∈ lamDefs K, H (He.cT K p).2 = some (.tbl #[])) (hm : m [.scr (ns.map D.int)] = .ok (.bl true) false []) : spM K [false] m [.ref a] H (fun v _ => v = .bl true) (fun _ _ _ => False) := by
  let F : Hp := fun b => match zTab K b with
    | some _ => none
    | none => H b
  have fz : ∀ b o, zTab K b = some o → F b = none := fun b o e => by show (match zTab K b with | some _ => none | none => H b) = none; rw [e]
  have fe : ∀ b, zTab K b = none → F b = H b := fun b e => by show (match zTab K b with | some _ => none | none => H b) = H b; rw [e]
  have fh : Le F H := fun b o e => by
    cases q : zTab K b with
    | none => rw [fe b q] at e; exact e
    | some u => rw [fz b u q] at e; cases e
  have zh : ZLe (zTab K) H := fun b o e => by
    obtain ⟨x, h1, rfl, rfl⟩ := zTab_of e
    exact .inr ⟨_, rfl, LamX.TabS.nil (hT _ h1)⟩
  have hS' : SqL K F a (ns.map V.int) := by
    have ea := fe a na
    rcases hS with h | h
    · refine .inl ?_
      rcases h with h | ⟨o, h⟩
      · exact .inl (by rw [ea]; exact h)
      · exact .inr ⟨o, by rw [ea]; exact h⟩
    · exact .inr h
  refine ⟨zTab K, F, [.scr (ns.map D.int)], ⟨fh, zh, fz, zTab_at n⟩, .sh (.scr hS' (rels_ints ns)) .nil, ?_⟩
  rw [hm]
  intro v F' H' l hp ho hr
  cases (show Rel K F' v (.bl true) from hr)
  rfl
theorem FnV.mono {P : Program} {w : World} {mg : Str → Option Value} {base : Heap} {k k' : Nat} {f : Addr} {n : Nat} {ks : List Str} {tl : List (Nat ⊕ D)} {ms : List Bool} {m : Mir} (G : Nu.FnV P w K mg base k f n ks tl ms m) (h : k ≤ k') : Nu.FnV P w K mg base k' f n ks tl ms m := by
  obtain ⟨fd, ps, tv, g, b, t⟩ := G.ex
  exact ⟨fd, ps, tv, g.mono h, b, t⟩
structure First (K : PySem.W.Frag) (H : Hp) (a : Addr) (us : List Value) (ns : List Int) : Prop where
  each : ∀ b u, H b = some u → (b = a ∧ K.lookup a = none ∧ u = .frz { cls := .type "list", data := .seq us.toArray } (.lst (ns.map V.int))) ∨ ∃ p ∈ lamDefs K, b = (He.cT K p).2 ∧ u = .tbl #[]
  tabs : ∀ p ∈ lamDefs K, H (He.cT K p).2 = some (.tbl #[])
theorem law_at {Pg : Program} {w : World} {mg mb : Str → Option Value} {k : Nat} {fa a : Addr} {fd : FuncData} {x : Str} {m : Mir} {s1 : Shared} {us : List Value} {ns : List Int} (inK : K.In s1.heap) (tO : TabO K s1.heap) (gl : s1.heap.Ns mainGlobals mg) (bl : s1.heap.Ns builtinsNs mb) (bb : ∀ y : Str, y ≠ "__name__" → mb y = bootBuiltins y) (nl : s1.heap.NoLimit) (gn : s1.gens = #[])
    (hbm : ∃ (bm : Addr) (ob : Obj), mg "__builtins__" = some (.ref bm) ∧ bm ≠ builtinsNs ∧ s1.heap.get? bm = some ob ∧ ob.cls = .type "module" ∧ ob.dict = some builtinsNs ∧ ob.data = .plain)
    (ob : s1.heap.get? a = some { cls := .type "list", data := .seq us.toArray }) (isI : IntsAre us ns) (sz : ns.length ≤ sizeLine) (room : Nu.Room k callerA)
    (G : ∀ base : Heap, K.In base → base.Ns mainGlobals mg → (∀ p ∈ lamDefs K, LamX.TabB base mg (He.cT K p).1 (He.cT K p).2) → Nu.FnOk Pg w K mg base (L2N.CX Pg w) k fa fd [x] (spM K [false] m))
    (bd : ∀ (s : Shared) (u : Value), BindsTo s fd ⟨[u], []⟩ [(x, u)]) (hm : m [.scr (ns.map D.int)] = .ok (.bl true) false []) :
    codeAny (model Pg w) callerA (.call (.ref fa) ⟨[.ref a], []⟩) (fun r s' => r = .ok (.ret (.bool true)) ∧ OldK s1.heap s'.heap ∧ s'.os = s1.os ∧ AllBare s'.gens) s1 := by
  have aT : ∀ p ∈ lamDefs K, a ≠ (He.cT K p).2 := fun p hp z => by
    have := tO.nil p hp
    rw [← z, ob] at this
    cases this
  have za : zTab K a = none := by
    cases e : zTab K a with
    | none => rfl
    | some o => obtain ⟨y, h1, h2, _⟩ := zTab_of e; exact absurd h2 (aT _ h1)
  have from_H : ∀ H : Hp, First K H a us ns → SqL K H a (ns.map V.int) → HOk Pg w H s1.heap →
      codeAny (model Pg w) callerA (.call (.ref fa) ⟨[.ref a], []⟩) (fun r s' => r = .ok (.ret (.bool true)) ∧ OldK s1.heap s'.heap ∧ s'.os = s1.os ∧ AllBare s'.gens) s1 := by
    intro H one sq hok
    have freeOf : ∀ {b : Addr} {o : Obj}, s1.heap.get? b = some o → (∀ vs n, o.data ≠ .seq vs n) → o.data ≠ .fields #[] → H b = none := by
      intro b o e d1 d2
      cases z : H b with
      | none => rfl
      | some u =>
        rcases one.each b u z with ⟨rfl, _, _⟩ | ⟨p, hp, rfl, _⟩
        · rw [ob] at e; cases e; exact absurd rfl (d1 _ _)
        · rw [tO.nil p hp] at e; cases e; exact absurd rfl d2
    have names : ∀ {b : Addr} {g : Str → Option Value}, s1.heap.Ns b g → (hidT s1.heap H).Ns b g := by
      rintro b g ⟨o, es, p, e, d, r⟩
      exact ⟨o, es, p, hidT_get e (freeOf e (fun _ _ z => by rw [d] at z; cases z) (fun z => by rw [d] at z; cases z)), d, r⟩
    have inB : K.In (hidT s1.heap H) := by
      intro b o e
      refine hidT_get (inK b o e) ?_
      cases z : H b with
      | none => rfl
      | some u =>
        rcases one.each b u z with ⟨rfl, no, _⟩ | ⟨p, hp, rfl, _⟩
        · rw [no] at e; cases e
        · rw [tO.out p hp] at e; cases e
    have tabs : ∀ p ∈ lamDefs K, LamX.TabB (hidT s1.heap H) mg (He.cT K p).1 (He.cT K p).2 := by
      intro p hp
      obtain ⟨bm, om, b1, b2, b3, b4, b5, b6⟩ := hbm
      have ng : bm ≠ mainGlobals := by
        rintro rfl
        obtain ⟨o, es, ep, e, d, _⟩ := gl
        rw [e] at b3; cases b3
        rw [d] at b6; cases b6
      have np : bm ≠ (He.cT K p).2 := by
        intro z
        rw [z, tO.nil p hp] at b3; cases b3
        cases b6
      have gP : mainGlobals ≠ (He.cT K p).2 := by
        intro z
        obtain ⟨o, es, ep, e, d, _⟩ := gl
        rw [z, tO.nil p hp] at e; cases e
        cases d
      exact ⟨PySem.W.codeHd_of_K inB (tO.hd p hp), ⟨bm, om, b1, b2, ng, np, hidT_get b3 (freeOf b3 (fun _ _ z => by rw [b6] at z; cases z) (fun z => by rw [b6] at z; cases z)), b4, b5, b6⟩, gP⟩
    obtain ⟨mc, c1, c2⟩ := nl
    have en : Env0 Pg w K mg (hidT s1.heap H) callerA [] s1 H := ⟨rfl, ⟨inB, names gl, ⟨mb, names bl, bb⟩, ⟨mc, names c1, c2⟩⟩, fun b o e => of_hidT e, Nat.le_of_eq (hidT_size _ _), trivial, (fun b hb => nomatch (show b ∈ ([] : List Addr) from hb)), hok, .of_eq gn⟩
    refine codeAny_mono ((G _ inB (names gl) tabs).run callerA [] s1 H ⟨[.ref a], []⟩ [.ref a] [.ref a] _ _ room en (bd s1 (.ref a)) (.cons rfl .nil) (law_sp sq za tO.ap one.tabs hm)) fun r s' h => ?_
    cases r with
    | error e => obtain ⟨_, _, _, _, _, _, _, _, _, _, _, _, z⟩ := h; exact z.elim
    | ok fl =>
      cases fl with
      | next => exact h.elim
      | brk => exact h.elim
      | cont => exact h.elim
      | ret u =>
        obtain ⟨v, H', os, bare, un, hok', rv, q⟩ := h
        have q' : v = .bl true := q
        subst q'
        have eu : u = Value.bool true := rv
        subst eu
        have stays : ∀ b o, s1.heap.get? b = some o → s'.heap.get? b = some o ∨ ∃ p ∈ lamDefs K, b = (He.cT K p).2 ∧ ∃ more : Array Value, s'.heap.get? b = some { cls := .none, data := .fields more } := by
          intro b o e
          cases z : H b with
          | none => exact .inl (un.keep b o e z (fun y => nomatch (show b ∈ ([] : List Addr) from y)) (by simp))
          | some u =>
            rcases one.each b u z with ⟨_, _, rfl⟩ | ⟨p, hp, eb, rfl⟩
            · obtain ⟨g1, _⟩ := hok b _ z
              obtain ⟨g2, _⟩ := hok' b _ (un.frzs b _ _ z)
              rw [e] at g1
              cases g1
              exact .inl g2
            · obtain ⟨more, y⟩ := un.tbls b #[] z
              exact .inr ⟨p, hp, eb, _, hok' b _ y⟩
        refine ⟨rfl, ⟨fun b o e => ?_, fun b o e => ?_⟩, os, bare⟩
        · rcases stays b o e with y | ⟨p, hp, rfl, more, y⟩
          · exact .inl y
          · have e2 := tO.nil p hp
            rw [e] at e2
            cases e2
            exact .inr (.inl ⟨((PySem.W.codeHd_of_K inK (tO.hd p hp)).tab e).isCodeTable, rfl, #[], more, rfl, by rw [Array.empty_append]; exact y⟩)
        · rcases stays b o e with y | ⟨p, hp, rfl, more, y⟩
          · exact ⟨o, y⟩
          · exact ⟨_, y⟩
  have vals : Vals (ns.map V.int) us := vals_ints isI
  have cnt : us.toArray.size ≤ sizeLine := by rw [List.size_toArray, isI.length]; exact sz
  let T : Hp := fun b => match zTab K b with
    | some _ => some (.tbl #[])
    | none => none
  have t1 : ∀ b u, T b = some u → ∃ p ∈ lamDefs K, b = (He.cT K p).2 ∧ u = .tbl #[] := fun b u e => by
    cases q : zTab K b with
    | none => have e' : T b = none := by { show (match zTab K b with | some _ => some (HO.tbl #[]) | none => none) = none; rw [q] }; rw [e'] at e; cases e
    | some o =>
      have e' : T b = some (.tbl #[]) := by show (match zTab K b with | some _ => some (HO.tbl #[]) | none => none) = _; rw [q]
      rw [e'] at e; cases e
      obtain ⟨y, h1, h2, _⟩ := zTab_of q
      exact ⟨_, h1, h2, rfl⟩
  have t2 : ∀ p ∈ lamDefs K, T (He.cT K p).2 = some (.tbl #[]) := fun p hp => by
    obtain ⟨y, hy, rfl⟩ := List.mem_map.mp hp
    obtain ⟨h1, h2⟩ := List.mem_filter.mp hy
    show (match zTab K (He.cT K (y, none)).2 with | some _ => some (HO.tbl #[]) | none => none) = _
    rw [zTab_at tO.ap y h1 h2]
  cases hk : K.lookup a with
  | some o =>
    have e := inK a o hk
    rw [ob] at e
    cases e
    refine from_H T ⟨fun b u z => .inr (t1 b u z), t2⟩ (.inr ⟨_, us.toArray, _, hk, rfl, rfl, rfl, cnt, by simpa using vals⟩) (fun b u z => ?_)
    obtain ⟨p, hp, rfl, rfl⟩ := t1 b u z
    exact tO.nil p hp
  | none =>
    have h0 : ∀ b u, (if b = a then some (HO.frz { cls := .type "list", data := .seq us.toArray } (.lst (ns.map V.int))) else T b) = some u → (b = a ∧ u = .frz { cls := .type "list", data := .seq us.toArray } (.lst (ns.map V.int))) ∨ T b = some u := fun b u z => by
      split at z
      · rename_i eb; cases z; exact .inl ⟨eb, rfl⟩
      · exact .inr z
    refine from_H (fun b => if b = a then some (.frz { cls := .type "list", data := .seq us.toArray } (.lst (ns.map V.int))) else T b) ⟨fun b u z => ?_, fun p hp => ?_⟩ (.inl (.inr ⟨{ cls := .type "list", data := .seq us.toArray }, if_pos rfl⟩)) (fun b u z => ?_)
    · rcases h0 b u z with ⟨h1, h2⟩ | h
      · exact .inl ⟨h1, hk, h2⟩
      · exact .inr (t1 b u h)
    · exact (if_neg (Ne.symm (aT p hp))).trans (t2 p hp)
    · rcases h0 b u z with ⟨rfl, rfl⟩ | h
      · exact ⟨ob, by rw [List.length_map]; exact sz, us, _, vals, ob⟩
      · obtain ⟨p, hp, rfl, rfl⟩ := t1 b u h
        exact tO.nil p hp
omit [WorldI] in
theorem walk_n {l : PySem.W.OpenLaw} {n k : Nat} {q : Program} {loose : List Str} {XP : (Str → Option Value) → Heap → Prop} {YP : World → Heap → Prop} {d : DefRec} {x : Str} {m : Mir}
    (hn : l.most = some n) (hn2 : n ≤ sizeLine) (hdf : d.params.defaults = []) (hr : Room k callerA) (hm : World → ∀ ns : List Int, ns.length ≤ n → m [.scr (ns.map D.int)] = .ok (.bl true) false [])
    (F : ∀ (w : World) (mg : Str → Option Value) (fa : Addr) (h : Heap), YP w h → h.Ns mainGlobals mg → mg d.name = some (.ref fa) → ∃ (K : PySem.W.Frag) (fd : FuncData), K.In h ∧ TabO K h ∧
      (∀ (s : Shared) (u : Value), BindsTo s fd ⟨[u], []⟩ [(x, u)]) ∧ ∀ base : Heap, K.In base → base.Ns mainGlobals mg → (∀ p ∈ lamDefs K, LamX.TabB base mg (He.cT K p).1 (He.cT K p).2) → FnOk l.prog w K mg base (L2N.CX l.prog w) k fa fd [x] (@spM ⟨w⟩ K [false] m)) :
    PySem.W.WalkO q loose XP YP l.row.toRowW d [] (fun f vs => PySem.call f vs) := by
  apply Att.attach_call hn hdf
  intro w s0 s1 mg mb fa o pm cd doc a vs ns G Y ho hd hcd hmg hobj hints hlen hg
  obtain ⟨K, fd, KX, tO, hb, hF⟩ := F w mg fa _ Y G.T.g hmg
  letI : WorldI := ⟨w⟩
  exact law_at KX tO G.T.g G.T.b G.T.builtins G.T.nolimit hg G.T.bmain hobj hints (Nat.le_trans hlen hn2) hr hF hb (hm w ns hlen)
end Nu
namespace Nu
variable [WorldI]
variable {α β : Type}
section
variable {ρ : Rho}
theorem a_run {n : Nat} {tl : List (Nat ⊕ D)} {ms : List Bool} {m : Mir} {ds : List D} {as : List Av} : sRun n tl ms m ds as ρ = if as.length = n then (match tailD ds tl with
    | some ts => callAt ms m (as ++ ts.map .val) ρ
    | none => .err) else .err := rfl
theorem a_callAt {ms : List Bool} {m : Mir} {as : List Av} : callAt ms m as ρ = match argsOf ρ ms as with
  | none => .err
  | some p => match m p.1 with
    | .ok d fr outs => .ok (d, fr) (setOuts p.2 outs ρ)
    | .exc c fs outs => .exc c fs (setOuts p.2 outs ρ)
    | .err => .err := rfl
@[simp] theorem a_peekV {d : D} : peek ρ (.val d) = some d := rfl
@[simp] theorem a_peekN {i : Nat} : peek ρ (.var i) = match ρ[i]? with
    | some (some (d, _)) => some d
    | _ => none := rfl
@[simp] theorem a_peeks0 : peeks ρ [] = some [] := rfl
@[simp] theorem a_peeks1 {o : Opd} {r : List Opd} : peeks ρ (o :: r) = (peek ρ o).bind fun d => (peeks ρ r).map (d :: ·) := rfl
@[simp] theorem a_vals0 : vals [] = some [] := rfl
@[simp] theorem a_vals1 {d : D} {r : List Opd} : vals (.val d :: r) = (vals r).map (d :: ·) := rfl
@[simp] theorem a_isLst0 {ds : List D} : isLst (some (some (.lst ds, .pin))) = true := rfl
@[simp] theorem a_isLst1 {ds : List D} : isLst (some (some (.lst ds, .ow))) = true := rfl
@[simp] theorem a_isPin0 {d : D} : isPin (some (some (d, .sh))) = false := rfl
@[simp] theorem a_isPin1 {d : D} : isPin (some (some (d, .ow))) = false := rfl
@[simp] theorem a_isPin2 : isPin (some none) = false := rfl
@[simp] theorem a_kd0 : kd false = .sh := rfl
@[simp] theorem a_kd1 : kd true = .ow := rfl
@[simp] theorem a_put1 {i : Nat} {d : D} : put1 i d ρ = if isPin ρ[i]? = true then none else some (ρ.set i (some (d, .sh))) := rfl
@[simp] theorem a_args0 : argsOf ρ [] [] = some ([], []) := rfl
@[simp] theorem a_args1 {d : D} {ms : List Bool} {as : List Av} : argsOf ρ (false :: ms) (.val d :: as) = (argsOf ρ ms as).map fun p => (d :: p.1, p.2) := rfl
@[simp] theorem a_args2 {d : D} {ms : List Bool} {as : List Av} : argsOf ρ (true :: ms) (.tmp d :: as) = (argsOf ρ ms as).map fun p => (d :: p.1, none :: p.2) := rfl
@[simp] theorem a_args3 {i : Nat} {ms : List Bool} {as : List Av} : argsOf ρ (true :: ms) (.var i :: as) = match ρ[i]? with
    | some (some (d, k)) => if k = .sh then none else (argsOf ρ ms as).bind fun p => if some i ∈ p.2 then none else some (d :: p.1, some i :: p.2)
    | _ => none := rfl
@[simp] theorem a_so0 {ds : List D} : setOuts [] ds ρ = ρ := rfl
@[simp] theorem a_so1 {i : Nat} {L : List (Option Nat)} {d : D} {ds : List D} : setOuts (some i :: L) (d :: ds) ρ = setOuts L ds (put2 i d ρ) := rfl
@[simp] theorem a_so2 {L : List (Option Nat)} {d : D} {ds : List D} : setOuts (none :: L) (d :: ds) ρ = setOuts L ds ρ := rfl
@[simp] theorem a_put2 {i : Nat} {d : D} : put2 i d ρ = match ρ[i]? with
  | some (some (_, k)) => ρ.set i (some (d, k))
  | _ => ρ := rfl
@[simp] theorem a_outs0 {i : Nat} : outsOf ρ [] i = some [] := rfl
@[simp] theorem a_outs1 {i : Nat} {ms : List Bool} : outsOf ρ (false :: ms) i = outsOf ρ ms (i + 1) := rfl
@[simp] theorem a_outs2 {i : Nat} {ms : List Bool} : outsOf ρ (true :: ms) i = match ρ[i]? with
    | some (some (d, .pin)) => (outsOf ρ ms (i + 1)).map (d :: ·)
    | _ => none := rfl
@[simp] theorem a_rho0 {ms : List Bool} : rho0 ms [] = [] := by cases ms <;> rfl
@[simp] theorem a_rho1 {m : Bool} {ms : List Bool} {d : D} {ds : List D} : rho0 (m :: ms) (d :: ds) = some (d, if m then .pin else .sh) :: rho0 ms ds := rfl
@[simp] theorem a_tail0 {ds : List D} : tailD ds [] = some [] := rfl
@[simp] theorem a_tail1 {ds : List D} {j : Nat} {r : List (Nat ⊕ D)} : tailD ds (.inl j :: r) = (ds[j]?).bind fun d => (tailD ds r).map (d :: ·) := rfl
@[simp] theorem a_tail2 {ds : List D} {d : D} {r : List (Nat ⊕ D)} : tailD ds (.inr d :: r) = (tailD ds r).map (d :: ·) := rfl
@[simp] theorem a_tgN {i : Nat} {d : D} : Tg.set (.nm i) d ρ = put1 i d ρ := by simp [Tg.set]
@[simp] theorem a_tgT {ts : List Tg} {ds : List D} : Tg.set (.tp ts) (.tup ds) ρ = Tg.sets ts ds ρ := by simp [Tg.set]
@[simp] theorem a_tgL {ts : List Tg} {ds : List D} : Tg.set (.lp ts) (.lst ds) ρ = Tg.sets ts ds ρ := by simp [Tg.set]
@[simp] theorem a_tgs0 : Tg.sets [] [] ρ = some ρ := by simp [Tg.sets]
@[simp] theorem a_tgs1 {t : Tg} {ts : List Tg} {d : D} {ds : List D} : Tg.sets (t :: ts) (d :: ds) ρ = (t.set d ρ).bind fun ρ1 => Tg.sets ts ds ρ1 := by simp [Tg.sets]
@[simp] theorem a_rng1 {j : Int} : rng1 [.val (.int j)] = if rOk j = true then some (intsD 0 j.toNat) else none := rfl
@[simp] theorem a_rng2 {i j : Int} : rng2 [.val (.int i), .val (.int j)] = if rOk i = true ∧ rOk j = true then some (intsD i (j - i).toNat) else none := rfl
@[simp] theorem a_wipe0 : wipeR ρ [] = ρ := rfl
@[simp] theorem a_wipe1 {v : Nat} {vs : List Nat} : wipeR ρ (v :: vs) = (wipeR ρ vs).set v none := rfl
@[simp] theorem a_setIx' {i : Nat} {n : Int} {d : D} : setIx i (.int n) d ρ = match ρ[i]? with
  | some (some (.lst ds, k)) => if k = .sh then none else (L2.ixN ds.length n).map fun j => ρ.set i (some (.lst (ds.set j d), k))
  | _ => none := by
  unfold setIx
  cases h : ρ[i]? with
  | none => rfl
  | some o =>
    cases o with
    | none => rfl
    | some p => obtain ⟨d', k⟩ := p; cases d' <;> rfl
@[simp] theorem a_mutAt {g : D → List D → Option (D × D)} {i : Nat} {ds : List D} : mutAt g i ρ ds = match ρ[i]? with
  | some (some (d, k)) => if k = .sh then none else (g d ds).map fun p => (p.1, ρ.set i (some (p.2, k)))
  | _ => none := rfl
end
@[simp] theorem gIx_l {ds : List D} {i : Int} : gIx (.lst ds) (.int i) = (L2.atI ds i).map fun d => (d, false) := rfl
@[simp] theorem gIx_t {ds : List D} {i : Int} : gIx (.tup ds) (.int i) = (L2.atI ds i).map fun d => (d, false) := rfl
@[simp] theorem gIx_c {ds : List D} {i : Int} : gIx (.scr ds) (.int i) = (L2.atI ds i).map fun d => (d, false) := rfl
@[simp] theorem gInt_i {i : Int} : gInt [.int i] = some (.int i, false) := rfl
@[simp] theorem gMin_i {i j : Int} : gMin [.int i, .int j] = some (.int (if j < i then j else i), false) := rfl
@[simp] theorem gMax_i {i j : Int} : gMax [.int i, .int j] = some (.int (if j > i then j else i), false) := rfl
@[simp] theorem gAbs_i {i : Int} : gAbs [.int i] = some (.int (if i < 0 then -i else i), false) := rfl
@[simp] theorem gLen_l {ds : List D} : gLen [.lst ds] = some (.int ds.length, false) := rfl
@[simp] theorem gLen_t {ds : List D} : gLen [.tup ds] = some (.int ds.length, false) := rfl
@[simp] theorem gLen_c {ds : List D} : gLen [.scr ds] = some (.int ds.length, false) := rfl
theorem gMul_i {i j : Int} (h : i.natAbs < 2 ^ 64 ∨ j.natAbs < 2 ^ 64) : gMul (.int i) (.int j) = some (.int (i * j), false) := by simp only [gMul]; rw [if_pos h]
theorem atI_nat {α : Type} {xs : List α} {i : Nat} : L2.atI xs (i : Int) = xs[i]? := by
  unfold L2.atI L2.ixN
  rw [if_pos (by omega)]
  by_cases h : i < xs.length
  · rw [if_pos (by omega)]; simp
  · rw [if_neg (by omega), List.getElem?_eq_none (by omega)]; rfl
end Nu
namespace Nu
variable [WorldI]
variable {ρ ρ' : Rho}
/-! ## loops -/
def forStep (t : Tg) (body : Rho → Ss) (d : D) (ρ : Rho) : Ss := match t.set d ρ with
  | none => .err
  | some ρ1 => body ρ1
theorem for_cons {t : Tg} {body : Rho → Ss} {d : D} {ds : List D} : forLoop t body (d :: ds) ρ = match forStep t body d ρ with
    | .nx ρ2 => forLoop t body ds ρ2
    | .ct ρ2 => forLoop t body ds ρ2
    | .bk ρ2 => .nx ρ2
    | r => r := by
  unfold forStep
  simp only [forLoop]
  cases t.set d ρ <;> rfl
inductive Pd {α β : Type} (P : α → β → Prop) : List α → List β → Prop
  | nil : Pd P [] []
  | cons {a : α} {b : β} {as : List α} {bs : List β} : P a b → Pd P as bs → Pd P (a :: as) (b :: bs)
def lcStep (vs : List Nat) (t : Tg) (tt : Rho → R Bool) (f : Rho → R (D × Bool)) (d : D) (ρ : Rho) : R (Option D) := match t.set d ρ with
  | none => .err
  | some ρ1 => match tt ρ1 with
    | .ok true ρ2 => (match f ρ2 with
      | .ok a ρ3 => .ok (some a.1) (wipeR ρ3 vs)
      | _ => .err)
    | .ok false ρ2 => .ok none (wipeR ρ2 vs)
    | _ => .err
theorem lc_cons {vs : List Nat} {t : Tg} {tt : Rho → R Bool} {f : Rho → R (D × Bool)} {d : D} {ds acc : List D} : lcLoop vs t tt f (d :: ds) acc ρ = match lcStep vs t tt f d ρ with
    | .ok (some v) ρ' => if acc.length < PySem.sizeLine then lcLoop vs t tt f ds (acc ++ [v]) ρ' else .err
    | .ok none ρ' => lcLoop vs t tt f ds acc ρ'
    | _ => .err := by
  unfold lcStep
  simp only [lcLoop]
  cases t.set d ρ with
  | none => rfl
  | some ρ1 =>
    cases h : tt ρ1 with
    | ok b ρ2 =>
      cases b with
      | true => cases h2 : f ρ2 <;> simp [h, h2]
      | false => simp [h]
    | _ => simp [h]
theorem lc_some {vs : List Nat} {t : Tg} {tt : Rho → R Bool} {f : Rho → R (D × Bool)} {d v : D} {ds acc : List D} (h : lcStep vs t tt f d ρ = .ok (some v) ρ') (hl : acc.length < PySem.sizeLine) : lcLoop vs t tt f (d :: ds) acc ρ = lcLoop vs t tt f ds (acc ++ [v]) ρ' := by
  rw [lc_cons, h]
  simp only [if_pos hl]
theorem lc_inv {vs : List Nat} {t : Tg} {tt : Rho → R Bool} {f : Rho → R (D × Bool)} (J : Rho → Prop) (P : D → D → Prop) : ∀ (ds acc : List D) (ρ : Rho), J ρ → acc.length + ds.length ≤ PySem.sizeLine →
    (∀ d ∈ ds, ∀ ρ, J ρ → ∃ v ρ', lcStep vs t tt f d ρ = .ok (some v) ρ' ∧ P d v ∧ J ρ') →
    ∃ es ρ', lcLoop vs t tt f ds acc ρ = .ok (acc ++ es) ρ' ∧ Pd P ds es ∧ J ρ'
  | [], acc, ρ, h, _, _ => ⟨[], ρ, by simp [lcLoop], .nil, h⟩
  | d :: ds, acc, ρ, h, hl, st => by
    obtain ⟨v, ρ1, e1, p, h2⟩ := st d (by simp) ρ h
    rw [List.length_cons] at hl
    obtain ⟨es, ρ', e4, q, h3⟩ := lc_inv J P ds (acc ++ [v]) ρ1 h2 (by rw [List.length_append]; simp; omega) fun x hx => st x (List.mem_cons_of_mem _ hx)
    refine ⟨v :: es, ρ', ?_, .cons p q, h3⟩
    rw [lc_some e1 (by omega), e4]
    simp
@[simp] theorem intsD_len {lo : Int} {n : Nat} : (intsD lo n).length = n := by simp [intsD]
theorem size16 : PySem.sizeLine = 16777216 := PySem.sizeLine_eq
theorem rOk_small {j : Int} (h0 : -1000000 ≤ j) (h : j ≤ 1000000) : rOk j = true := by
  simp only [rOk]
  simp
  omega
/-! ## comparing data -/
theorem beq_dec (x y : Int) : (x == y) = decide (x = y) := by
  by_cases h : x = y <;> simp [h]
theorem strOk_toStr (x : List Cp) : PySem.PyData.strOk (toStr x) = true := by
  unfold PySem.PyData.strOk toStr
  rw [List.all_toArray, List.all_eq_true]
  intro n hn
  obtain ⟨c, _, rfl⟩ := List.mem_map.mp hn
  simpa using c.isLt
@[simp] theorem pyOf_str (x : List Cp) : pyOf (.str x) = some (.str (toStr x)) := by
  have h : PySem.SeqAt.shaped (.str (toStr x)) = true := by
    unfold PySem.SeqAt.shaped
    rw [PySem.PyData.canLay0, strOk_toStr, PySem.PyData.depth]
    rfl
  simp [pyOf, toPy, h]
@[simp] theorem pyOf_int (i : Int) : pyOf (.int i) = some (.int i) := by
  have h : PySem.SeqAt.shaped (.int i) = true := by
    unfold PySem.SeqAt.shaped
    rw [PySem.PyData.canLay0, PySem.PyData.depth]
    rfl
  simp [pyOf, toPy, h]
@[simp] theorem pyOf_non : pyOf .non = some .none := by
  have h : PySem.SeqAt.shaped .none = true := by
    unfold PySem.SeqAt.shaped
    rw [PySem.PyData.canLay0, PySem.PyData.depth]
    rfl
  simp [pyOf, toPy, h]
theorem beq_toStr (x y : List Cp) : (toStr x == toStr y) = decide (x = y) := by
  by_cases h : x = y
  · subst h; simp
  · rw [decide_eq_false h]
    rw [beq_eq_false_iff_ne]
    exact fun e => h (toStr_inj e)
@[simp] theorem gEq_str (x y : List Cp) : gEq (.str x) (.str y) = some (.bl (decide (x = y)), false) := by
  simp [gEq, PySem.PyData.eqv, beq_toStr]
@[simp] theorem gNe_str (x y : List Cp) : gNe (.str x) (.str y) = some (.bl (!decide (x = y)), false) := by
  simp [gNe, PySem.PyData.eqv, beq_toStr]
@[simp] theorem gEq_int (x y : Int) : gEq (.int x) (.int y) = some (.bl (decide (x = y)), false) := by
  simp [gEq, PySem.PyData.eqv, beq_dec]
@[simp] theorem gNe_int (x y : Int) : gNe (.int x) (.int y) = some (.bl (!decide (x = y)), false) := by
  simp [gNe, PySem.PyData.eqv, beq_dec]
@[simp] theorem gIn_c (c : Cp) (z : List Cp) : gIn (.str [c]) (.str z) = some (.bl (decide (c ∈ z)), false) := rfl
@[simp] theorem gIs_non (d : D) : gIs d .non = some (.bl (isNon d), false) := by cases d <;> rfl
@[simp] theorem gNot_non (d : D) : gNot d .non = some (.bl (!isNon d), false) := by cases d <;> rfl
@[simp] theorem isNon_non : isNon .non = true := rfl
@[simp] theorem isNon_str (x : List Cp) : isNon (.str x) = false := rfl
@[simp] theorem isNon_int (x : Int) : isNon (.int x) = false := rfl
@[simp] theorem isi_str (z : List Cp) : gIsi [.str z, .ty "str"] = some (.bl true, false) := rfl
@[simp] theorem isi_tup (z : List D) : gIsi [.tup z, .ty "tuple"] = some (.bl true, false) := rfl
@[simp] theorem isi_int (z : Int) : gIsi [.int z, .ty "int"] = some (.bl true, false) := rfl
@[simp] theorem isi_intb (z : Int) : gIsi [.int z, .ty "bool"] = some (.bl false, false) := rfl
@[simp] theorem gAll_map (bs : List Bool) : gAll [.lst (bs.map D.bl)] = some (.bl (bs.all id), false) := by simp [gAll]
@[simp] theorem walk_ll {ds : List D} : walkD (.val (.lst ds)) = some ds := rfl
@[simp] theorem walk_t {ds : List D} : walkD (.val (.tup ds)) = some ds := rfl
@[simp] theorem walk_s {z : List Cp} : walkD (.val (.str z)) = some (chars z) := rfl
@[simp] theorem walk_c {ds : List D} : walkD (.val (.scr ds)) = some ds := rfl
@[simp] theorem enumO_t {ds : List D} : enumO [.val (.tup ds)] = some (enumD ds) := rfl
@[simp] theorem enumO_l {ds : List D} : enumO [.val (.lst ds)] = some (enumD ds) := rfl
@[simp] theorem lit0 : lit "" = [] := rfl
end Nu
namespace Nu
open PySem PySem.Spec PyProof.Rows L2
variable [WorldI]
section
variable {C : Cq} {Z Z' F F' H H' : Hp} {σ σ' : St} {ρ ρ' : Rho} {X : Cx}
/-! ## names that are used no more are forgotten -/
def Ss.wipe (vs : List Nat) : Ss → Ss
  | .nx ρ => .nx (wipeR ρ vs)
  | .ct ρ => .ct (wipeR ρ vs)
  | r => r
def sWp (vs : List Nat) (f : Rho → Ss) (ρ : Rho) : Ss := (f ρ).wipe vs
def sPre (vs : List Nat) (f : Rho → Ss) (ρ : Rho) : Ss := f (wipeR ρ vs)
theorem SR.forgets {K : PySem.W.Frag} {P : Nat → Addr} (S : SR K P Z F σ ρ H) (vs : List Nat) : SR K P Z F σ (wipeR ρ vs) H := S.other rfl fun _ _ => rfl
theorem AtS.wipe {E : Ends} {vs : List Nat} {r : Ss} (h : AtS C Z F E (r.wipe vs)) : AtS C Z F E r := by
  cases r with
  | nx ρ => exact fun F' H' σ' l S => h F' H' σ' l (S.forgets vs)
  | ct ρ => exact fun F' H' σ' l S => h F' H' σ' l (S.forgets vs)
  | _ => exact h
theorem dss_wp {vs : List Nat} {ss : List Stmt} {f : Rho → Ss} (h : PSs X ss (tS C f)) : PSs X ss (tS C (sWp vs f)) :=
  PSs.imp h fun E σ H ⟨Z, F, ρ, S, m⟩ => ⟨Z, F, ρ, S, AtS.wipe m⟩
theorem ds_pre {vs : List Nat} {st : Stmt} {f : Rho → Ss} (h : PS X st (tS C f)) : PS X st (tS C (sPre vs f)) :=
  PS.imp h fun E σ H ⟨Z, F, ρ, S, m⟩ => ⟨Z, F, wipeR ρ vs, S.forgets vs, m⟩
end
end Nu
namespace Nu
variable [WorldI]
variable {α β γ : Type} {ρ : Rho}
/-! ## what is wanted of a result -/
structure Tk {α : Sort 1} (Q : α) : Type
structure Bx (p : Prop) : Prop where
  h : p
def wpR (r : R α) (Q : R α → Prop) (_ : Tk Q := ⟨⟩) : Prop := Bx (Q r)
def wpS (r : Ss) (Q : Ss → Prop) (_ : Tk Q := ⟨⟩) : Prop := Bx (Q r)
def wpM (r : Mr) (Q : Mr → Prop) (_ : Tk Q := ⟨⟩) : Prop := Bx (Q r)
def wpO (o : Option α) (Q : Option α → Prop) (_ : Tk Q := ⟨⟩) : Prop := Bx (Q o)
def ThR (g : α → Rho → R β) (Q : R β → Prop) : R α → Prop
  | .ok a ρ => Q (g a ρ)
  | .exc c fs ρ => Q (.exc c fs ρ)
  | .err => Q .err
def ThX (g : α → Rho → Ss) (Q : Ss → Prop) : R α → Prop
  | .ok a ρ => Q (g a ρ)
  | .exc c fs ρ => Q (.exc c fs ρ)
  | .err => Q .err
def ThS (g : Rho → Ss) (Q : Ss → Prop) : Ss → Prop
  | .nx ρ => Q (g ρ)
  | r => Q r
def ThM (L : List (Option Nat)) (ρ : Rho) (Q : R (D × Bool) → Prop) : Mr → Prop
  | .ok d fr outs => Q (.ok (d, fr) (setOuts L outs ρ))
  | .exc c fs outs => Q (.exc c fs (setOuts L outs ρ))
  | .err => Q .err
def ThK (L : List (Option Nat)) (ρ : Rho) (Q : R (D × Bool) → Prop) : Mr → Prop
  | .ok .non false (o :: outs) => Q (.ok (o, true) (setOuts L (o :: outs) ρ))
  | .exc e fs outs => Q (.exc e fs (setOuts L outs ρ))
  | _ => Q .err
def ThW (vs : List Nat) (Q : Ss → Prop) : Ss → Prop := fun r => Q (r.wipe vs)
def ThO (g : α → R β) (Q : R β → Prop) : Option α → Prop
  | some a => Q (g a)
  | none => Q .err
def ThP (g : α → Ss) (Q : Ss → Prop) : Option α → Prop
  | some a => Q (g a)
  | none => Q .err
def ThQ (g : α → Mr) (Q : Mr → Prop) : Option α → Prop
  | some a => Q (g a)
  | none => Q .err
def ThB (ms : List Bool) (Q : Mr → Prop) : Ss → Prop
  | .nx ρ => (ThQ (fun outs => .ok .non false outs) Q) (outsOf ρ ms 0)
  | .rt d fr ρ => (ThQ (fun outs => .ok d fr outs) Q) (outsOf ρ ms 0)
  | .exc c fs ρ => (ThQ (fun outs => .exc c fs outs) Q) (outsOf ρ ms 0)
  | _ => Q .err
def ThC (m : Mir) (ρ : Rho) (Q : R (D × Bool) → Prop) : Option (List D × List (Option Nat)) → Prop
  | some p => (ThM p.2 ρ Q) (m p.1)
  | none => Q .err
def ThD (m : Mir) (ρ : Rho) (Q : R (D × Bool) → Prop) : Option (List D × List (Option Nat)) → Prop
  | some p => (ThK p.2 ρ Q) (m p.1)
  | none => Q .err
def optR (o : Option α) (k : α → R β) : R β := match o with
  | some a => k a
  | none => .err
def optS (o : Option α) (k : α → Ss) : Ss := match o with
  | some a => k a
  | none => .err
def asB : D → Option Bool
  | .bl b => some b
  | _ => none
def asI : D → Option Int
  | .int b => some b
  | _ => none
def asV : Opd → Option D
  | .val d => some d
  | _ => none
def asS : Opd → Option (List Cp)
  | .val (.str s) => some s
  | _ => none
def as2 : Option (List D) → Option (D × D)
  | some [d, e] => some (d, e)
  | _ => none
@[simp] theorem asB_b {b : Bool} : asB (.bl b) = some b := rfl
@[simp] theorem asI_i {b : Int} : asI (.int b) = some b := rfl
@[simp] theorem asV_v {b : D} : asV (.val b) = some b := rfl
@[simp] theorem asS_s {b : List Cp} : asS (.val (.str b)) = some b := rfl
@[simp] theorem as2_2 {d e : D} : as2 (some [d, e]) = some (d, e) := rfl
@[simp] theorem th_ok {g : α → Rho → R β} {Q : R β → Prop} {a : α} : wpR (.ok a ρ) (ThR g Q) = wpR (g a ρ) Q := (rfl)
@[simp ↓] theorem th_exc {g : α → Rho → R β} {Q : R β → Prop} {c : PySem.Str} {fs : List (PySem.Str × D)} : wpR (.exc c fs ρ) (ThR g Q) = wpR (.exc c fs ρ) Q := (rfl)
@[simp] theorem thx_ok {g : α → Rho → Ss} {Q : Ss → Prop} {a : α} : wpR (.ok a ρ) (ThX g Q) = wpS (g a ρ) Q := (rfl)
@[simp ↓] theorem thx_exc {g : α → Rho → Ss} {Q : Ss → Prop} {c : PySem.Str} {fs : List (PySem.Str × D)} : wpR (.exc c fs ρ) (ThX g Q) = wpS (.exc c fs ρ) Q := (rfl)
@[simp] theorem ths_nx {g : Rho → Ss} {Q : Ss → Prop} : wpS (.nx ρ) (ThS g Q) = wpS (g ρ) Q := (rfl)
@[simp ↓] theorem ths_rt {g : Rho → Ss} {Q : Ss → Prop} {d : D} {fr : Bool} : wpS (.rt d fr ρ) (ThS g Q) = wpS (.rt d fr ρ) Q := (rfl)
@[simp ↓] theorem ths_bk {g : Rho → Ss} {Q : Ss → Prop} : wpS (.bk ρ) (ThS g Q) = wpS (.bk ρ) Q := (rfl)
@[simp ↓] theorem ths_ct {g : Rho → Ss} {Q : Ss → Prop} : wpS (.ct ρ) (ThS g Q) = wpS (.ct ρ) Q := (rfl)
@[simp ↓] theorem ths_exc {g : Rho → Ss} {Q : Ss → Prop} {c : PySem.Str} {fs : List (PySem.Str × D)} : wpS (.exc c fs ρ) (ThS g Q) = wpS (.exc c fs ρ) Q := (rfl)
@[simp ↓] theorem thm_ok {L : List (Option Nat)} {Q : R (D × Bool) → Prop} {d : D} {fr : Bool} {outs : List D} : wpM (.ok d fr outs) (ThM L ρ Q) = wpR (.ok (d, fr) (setOuts L outs ρ)) Q := (rfl)
@[simp ↓] theorem thm_exc {L : List (Option Nat)} {Q : R (D × Bool) → Prop} {c : PySem.Str} {fs : List (PySem.Str × D)} {outs : List D} : wpM (.exc c fs outs) (ThM L ρ Q) = wpR (.exc c fs (setOuts L outs ρ)) Q := (rfl)
@[simp ↓] theorem thk_ok {L : List (Option Nat)} {Q : R (D × Bool) → Prop} {o : D} {outs : List D} : wpM (.ok .non false (o :: outs)) (ThK L ρ Q) = wpR (.ok (o, true) (setOuts L (o :: outs) ρ)) Q := (rfl)
@[simp ↓] theorem thk_exc {L : List (Option Nat)} {Q : R (D × Bool) → Prop} {c : PySem.Str} {fs : List (PySem.Str × D)} {outs : List D} : wpM (.exc c fs outs) (ThK L ρ Q) = wpR (.exc c fs (setOuts L outs ρ)) Q := (rfl)
@[simp ↓] theorem thw_nx {vs : List Nat} {Q : Ss → Prop} : wpS (.nx ρ) (ThW vs Q) = wpS (.nx (wipeR ρ vs)) Q := (rfl)
@[simp ↓] theorem thw_ct {vs : List Nat} {Q : Ss → Prop} : wpS (.ct ρ) (ThW vs Q) = wpS (.ct (wipeR ρ vs)) Q := (rfl)
@[simp ↓] theorem thw_bk {vs : List Nat} {Q : Ss → Prop} : wpS (.bk ρ) (ThW vs Q) = wpS (.bk ρ) Q := (rfl)
@[simp ↓] theorem thw_rt {vs : List Nat} {Q : Ss → Prop} {d : D} {fr : Bool} : wpS (.rt d fr ρ) (ThW vs Q) = wpS (.rt d fr ρ) Q := (rfl)
@[simp ↓] theorem thw_exc {vs : List Nat} {Q : Ss → Prop} {c : PySem.Str} {fs : List (PySem.Str × D)} : wpS (.exc c fs ρ) (ThW vs Q) = wpS (.exc c fs ρ) Q := (rfl)
@[simp ↓] theorem tho_some {g : α → R β} {Q : R β → Prop} {a : α} : wpO (some a) (ThO g Q) = wpR (g a) Q := (rfl)
@[simp ↓] theorem thp_some {g : α → Ss} {Q : Ss → Prop} {a : α} : wpO (some a) (ThP g Q) = wpS (g a) Q := (rfl)
@[simp ↓] theorem thq_some {g : α → Mr} {Q : Mr → Prop} {a : α} : wpO (some a) (ThQ g Q) = wpM (g a) Q := (rfl)
@[simp ↓] theorem thc_some {m : Mir} {Q : R (D × Bool) → Prop} {p : List D × List (Option Nat)} : wpO (some p) (ThC m ρ Q) = wpM (m p.1) (ThM p.2 ρ Q) := (rfl)
@[simp ↓] theorem thd_some {m : Mir} {Q : R (D × Bool) → Prop} {p : List D × List (Option Nat)} : wpO (some p) (ThD m ρ Q) = wpM (m p.1) (ThK p.2 ρ Q) := (rfl)
@[simp ↓] theorem thb_nx {ms : List Bool} {Q : Mr → Prop} : wpS (.nx ρ) (ThB ms Q) = wpO (outsOf ρ ms 0) (ThQ (fun outs => .ok .non false outs) Q) := (rfl)
@[simp ↓] theorem thb_rt {ms : List Bool} {Q : Mr → Prop} {d : D} {fr : Bool} : wpS (.rt d fr ρ) (ThB ms Q) = wpO (outsOf ρ ms 0) (ThQ (fun outs => .ok d fr outs) Q) := (rfl)
@[simp ↓] theorem thb_exc {ms : List Bool} {Q : Mr → Prop} {c : PySem.Str} {fs : List (PySem.Str × D)} : wpS (.exc c fs ρ) (ThB ms Q) = wpO (outsOf ρ ms 0) (ThQ (fun outs => .exc c fs outs) Q) := (rfl)
@[simp ↓] theorem wp_bind {r : R α} {g : α → Rho → R β} {Q : R β → Prop} : wpR (r.bind g) Q = wpR r (ThR g Q) := by cases r <;> rfl
@[simp ↓] theorem wp_rx {r : R α} {g : α → Rho → Ss} {Q : Ss → Prop} : wpS (Rx r g) Q = wpR r (ThX g Q) := by cases r <;> rfl
@[simp ↓] theorem wp_seq' {r : Ss} {g : Rho → Ss} {Q : Ss → Prop} : wpS (r.seq g) Q = wpS r (ThS g Q) := by cases r <;> rfl
@[simp ↓] theorem wp_of {o : Option α} {Q : R α → Prop} : wpR (R.of o ρ) Q = wpO o (ThO (fun a => .ok a ρ) Q) := by cases o <;> rfl
@[simp ↓] theorem wp_optR {o : Option α} {k : α → R β} {Q : R β → Prop} : wpR (optR o k) Q = wpO o (ThO k Q) := by cases o <;> rfl
@[simp ↓] theorem wp_optS {o : Option α} {k : α → Ss} {Q : Ss → Prop} : wpS (optS o k) Q = wpO o (ThP k Q) := by cases o <;> rfl
theorem wp_iteR {p : Prop} [Decidable p] {a b : R α} {Q : R α → Prop} : wpR (if p then a else b) Q = if p then wpR a Q else wpR b Q := by split <;> rfl
@[simp ↓] theorem wp_ifR {c : Bool} {a b : R α} {Q : R α → Prop} : wpR (if c = true then a else b) Q = if c = true then wpR a Q else wpR b Q := by split <;> rfl
@[simp ↓] theorem wp_ifS {c : Bool} {a b : Ss} {Q : Ss → Prop} : wpS (if c = true then a else b) Q = if c = true then wpS a Q else wpS b Q := by split <;> rfl
theorem wp_body {ms : List Bool} {n : Nat} {f : Rho → Ss} {ds : List D} {Q : Mr → Prop} (h : wpS (f (rho0 ms ds ++ List.replicate (n - ds.length) none)) (ThB ms Q)) : wpM (bodyM ms n f ds) Q := by
  unfold bodyM
  cases hf : f (rho0 ms ds ++ List.replicate (n - ds.length) none) with
  | nx ρ =>
    rw [hf] at h
    simp only [thb_nx] at h
    cases ho : outsOf ρ ms 0 with
    | none => rw [ho] at h; simp only [ho]; exact h
    | some o => rw [ho] at h; simp only [ho]; exact h
  | rt d fr ρ =>
    rw [hf] at h
    simp only [thb_rt] at h
    cases ho : outsOf ρ ms 0 with
    | none => rw [ho] at h; simp only [ho]; exact h
    | some o => rw [ho] at h; simp only [ho]; exact h
  | exc c fs ρ =>
    rw [hf] at h
    simp only [thb_exc] at h
    cases ho : outsOf ρ ms 0 with
    | none => rw [ho] at h; simp only [ho]; exact h
    | some o => rw [ho] at h; simp only [ho]; exact h
  | bk ρ => rw [hf] at h; exact h
  | ct ρ => rw [hf] at h; exact h
  | err => rw [hf] at h; exact h
theorem eqM {m x : Mr} (h : wpM m fun r => r = x) : m = x := h.1
theorem okM {x : Mr} : wpM x fun r => r = x := ⟨rfl⟩
/-! ## the combinators, from the outside -/
section
variable {QS : Ss → Prop} {QE : R (D × Bool) → Prop} {QB : R Bool → Prop} {QO : R Opd → Prop} {QI : R (Option Int) → Prop} {QA : R (List Opd) → Prop} {QV : R (List Av) → Prop} {QL : R (List D) → Prop}
@[simp ↓] theorem w_seq {f g : Rho → Ss} : wpS (sSeq f g ρ) QS = wpS (f ρ) (ThS g QS) := wp_seq'
@[simp ↓] theorem w_nx : wpS (sNx ρ) QS = wpS (.nx ρ) QS := (rfl)
@[simp ↓] theorem w_bk : wpS (sBk ρ) QS = wpS (.bk ρ) QS := (rfl)
@[simp ↓] theorem w_ct : wpS (sCt ρ) QS = wpS (.ct ρ) QS := (rfl)
@[simp ↓] theorem w_drop {f : Rho → R (D × Bool)} : wpS (sDrop f ρ) QS = wpR (f ρ) (ThX (fun _ ρ1 => .nx ρ1) QS) := wp_rx
@[simp ↓] theorem w_ret {f : Rho → R (D × Bool)} : wpS (sRet f ρ) QS = wpR (f ρ) (ThX (fun a ρ1 => .rt a.1 a.2 ρ1) QS) := wp_rx
@[simp ↓] theorem w_retN : wpS (sRetN ρ) QS = wpS (.rt .non false ρ) QS := (rfl)
@[simp ↓] theorem w_set {i : Nat} {f : Rho → R (D × Bool)} : wpS (sSet i f ρ) QS = wpR (f ρ) (ThX (fun a ρ1 => if isPin ρ1[i]? = true then .err else .nx (ρ1.set i (some (a.1, kd a.2)))) QS) := wp_rx
@[simp ↓] theorem w_ifS {c : Rho → R Bool} {f g : Rho → Ss} : wpS (sIfS c f g ρ) QS = wpR (c ρ) (ThX (fun b ρ1 => if b = true then f ρ1 else g ρ1) QS) := wp_rx
@[simp ↓] theorem w_for {t : Tg} {it : Rho → R (List D)} {body : Rho → Ss} : wpS (sFor t it body ρ) QS = wpR (it ρ) (ThX (fun ds ρ1 => forLoop t body ds ρ1) QS) := wp_rx
@[simp ↓] theorem w_wp {vs : List Nat} {f : Rho → Ss} : wpS (sWp vs f ρ) QS = wpS (f ρ) (ThW vs QS) := (rfl)
@[simp ↓] theorem w_pre {vs : List Nat} {f : Rho → Ss} : wpS (sPre vs f ρ) QS = wpS (f (wipeR ρ vs)) QS := (rfl)
@[simp ↓] theorem w_opd {f : Rho → R (D × Bool)} : wpR (sOpd f ρ) QO = wpR (f ρ) (ThR (fun a ρ1 => .ok (.val a.1) ρ1) QO) := wp_bind
@[simp ↓] theorem w_c {d : D} : wpR (sC d ρ) QE = wpR (.ok (d, false) ρ) QE := (rfl)
@[simp ↓] theorem w_op2 {g : D → D → Option (D × Bool)} {f1 f2 : Rho → R Opd} : wpR (sOp2 g f1 f2 ρ) QE = wpR (f1 ρ) (ThR (fun o1 ρ1 => (f2 ρ1).bind fun o2 ρ2 => R.of ((peek ρ2 o1).bind fun d1 => (peek ρ2 o2).bind fun d2 => g d1 d2) ρ2) QE) := wp_bind
@[simp ↓] theorem w_test {f : Rho → R (D × Bool)} : wpR (sTest f ρ) QB = wpR (f ρ) (ThR (fun a ρ1 => optR (asB a.1) fun b => .ok b ρ1) QB) := by
  rw [← wp_bind]; congr 1; unfold sTest; congr 1; funext ⟨a, _⟩ ρ1; cases a <;> rfl
@[simp ↓] theorem w_not {f : Rho → R Bool} : wpR (sNot f ρ) QB = wpR (f ρ) (ThR (fun b ρ1 => .ok (!b) ρ1) QB) := wp_bind
@[simp ↓] theorem w_and {f g : Rho → R Bool} : wpR (sAnd f g ρ) QB = wpR (f ρ) (ThR (fun b ρ1 => if b = true then g ρ1 else .ok false ρ1) QB) := wp_bind
@[simp ↓] theorem w_or {f g : Rho → R Bool} : wpR (sOr f g ρ) QB = wpR (f ρ) (ThR (fun b ρ1 => if b = true then .ok true ρ1 else g ρ1) QB) := wp_bind
@[simp ↓] theorem w_andV {f g : Rho → R (D × Bool)} : wpR (sAndV f g ρ) QE = wpR (f ρ) (ThR (fun a ρ1 => optR (asB a.1) fun b => if b = true then g ρ1 else .ok (.bl false, false) ρ1) QE) := by
  rw [← wp_bind]; congr 1; unfold sAndV; congr 1; funext ⟨a, _⟩ ρ1; cases a <;> try rfl
  rename_i b; cases b <;> rfl
@[simp ↓] theorem w_orV {f g : Rho → R (D × Bool)} : wpR (sOrV f g ρ) QE = wpR (f ρ) (ThR (fun a ρ1 => optR (asB a.1) fun b => if b = true then .ok (.bl true, false) ρ1 else g ρ1) QE) := by
  rw [← wp_bind]; congr 1; unfold sOrV; congr 1; funext ⟨a, _⟩ ρ1; cases a <;> try rfl
  rename_i b; cases b <;> rfl
@[simp ↓] theorem w_notV {f : Rho → R (D × Bool)} : wpR (sNotV f ρ) QE = wpR (f ρ) (ThR (fun a ρ1 => optR (asB a.1) fun b => .ok (.bl !b, false) ρ1) QE) := by
  rw [← wp_bind]; congr 1; unfold sNotV; congr 1; funext ⟨a, _⟩ ρ1; cases a <;> rfl
@[simp ↓] theorem w_neg {f : Rho → R (D × Bool)} : wpR (sNeg f ρ) QE = wpR (f ρ) (ThR (fun a ρ1 => optR (asI a.1) fun i => .ok (.int (-i), false) ρ1) QE) := by
  rw [← wp_bind]; congr 1; unfold sNeg; congr 1; funext ⟨a, _⟩ ρ1; cases a <;> rfl
@[simp ↓] theorem w_if {c : Rho → R Bool} {f g : Rho → R α} {Q : R α → Prop} : wpR (sIf c f g ρ) Q = wpR (c ρ) (ThR (fun b ρ1 => if b = true then f ρ1 else g ρ1) Q) := wp_bind
def asBf : D × Bool → Option Bool
  | (.bl b, false) => some b
  | _ => none
@[simp] theorem asBf_b {b : Bool} : asBf (.bl b, false) = some b := rfl
@[simp ↓] theorem w_chain {g1 g2 : D → D → Option (D × Bool)} {f1 f2 f3 : Rho → R Opd} : wpR (sChain g1 g2 f1 f2 f3 ρ) QE = wpR (f1 ρ) (ThR (fun o1 ρ1 => (f2 ρ1).bind fun o2 ρ2 => (R.of ((peek ρ2 o1).bind fun d1 => (peek ρ2 o2).bind fun d2 => g1 d1 d2) ρ2).bind fun a ρ3 => optR (asBf a) fun b =>
    if b = true then (f3 ρ3).bind fun o3 ρ4 => R.of ((peek ρ4 o2).bind fun d2 => (peek ρ4 o3).bind fun d3 => g2 d2 d3) ρ4 else .ok (.bl false, false) ρ3) QE) := by
  rw [← wp_bind]; congr 1; unfold sChain; congr 1; funext o1 ρ1; congr 1; funext o2 ρ2; congr 1; funext ⟨a, fr⟩ ρ3
  cases a <;> try rfl
  rename_i b; cases b <;> cases fr <;> rfl
@[simp ↓] theorem w_noP : wpR (sNoP ρ) QI = wpR (.ok none ρ) QI := (rfl)
@[simp ↓] theorem w_P {f : Rho → R (D × Bool)} : wpR (sP f ρ) QI = wpR (f ρ) (ThR (fun a ρ1 => optR (asI a.1) fun i => .ok (some i) ρ1) QI) := by
  rw [← wp_bind]; congr 1; unfold sP; congr 1; funext ⟨a, _⟩ ρ1; cases a <;> rfl
@[simp ↓] theorem w_sl {g : D → Option Int → Option Int → Option (D × Bool)} {f : Rho → R Opd} {fl fh : Rho → R (Option Int)} : wpR (sSl g f fl fh ρ) QE =
  wpR (f ρ) (ThR (fun o ρ1 => (fl ρ1).bind fun lo ρ2 => (fh ρ2).bind fun hi ρ3 => R.of ((peek ρ3 o).bind fun d => g d lo hi) ρ3) QE) := wp_bind
@[simp ↓] theorem w_nil : wpR (sNil ρ) QA = wpR (.ok [] ρ) QA := (rfl)
@[simp ↓] theorem w_cons {f : Rho → R Opd} {g : Rho → R (List Opd)} : wpR (sCons f g ρ) QA = wpR (f ρ) (ThR (fun o ρ1 => (g ρ1).bind fun os ρ2 => .ok (o :: os) ρ2) QA) := wp_bind
def small (ds : List D) : Option (List D) := if ds.length ≤ PySem.sizeLine then some ds else none
@[simp] theorem small_ok {ds : List D} (h : ds.length ≤ 100000) : small ds = some ds := by
  have : ds.length ≤ PySem.sizeLine := by rw [size16]; omega
  simp [small, this]
@[simp ↓] theorem w_tup {g : Rho → R (List Opd)} : wpR (sTup g ρ) QE = wpR (g ρ) (ThR (fun os ρ1 => R.of (((vals os).bind small).map fun ds => (.tup ds, false)) ρ1) QE) := by
  rw [← wp_bind]; congr 1; unfold sTup; congr 1; funext os ρ1; congr 1; cases vals os with
  | none => rfl
  | some ds => simp only [Option.bind_some, small]; split <;> rfl
@[simp ↓] theorem w_lst {g : Rho → R (List Opd)} : wpR (sLst g ρ) QE = wpR (g ρ) (ThR (fun os ρ1 => R.of (((vals os).bind small).map fun ds => (.lst ds, true)) ρ1) QE) := by
  rw [← wp_bind]; congr 1; unfold sLst; congr 1; funext os ρ1; congr 1; cases vals os with
  | none => rfl
  | some ds => simp only [Option.bind_some, small]; split <;> rfl
@[simp ↓] theorem w_fn {g : List D → Option (D × Bool)} {fa : Rho → R (List Opd)} : wpR (sFn g fa ρ) QE = wpR (fa ρ) (ThR (fun os ρ1 => R.of ((peeks ρ1 os).bind g) ρ1) QE) := wp_bind
@[simp ↓] theorem w_fld {cs : List PySem.Str} {f : PySem.Str} {fo : Rho → R Opd} : wpR (sFld cs f fo ρ) QE = wpR (fo ρ) (ThR (fun o ρ1 => R.of ((peek ρ1 o).bind (getF cs f)) ρ1) QE) := wp_bind
@[simp ↓] theorem w_yes : wpR (sYes ρ) QB = wpR (.ok true ρ) QB := (rfl)
@[simp ↓] theorem w_vNil : wpR (vNil ρ) QV = wpR (.ok [] ρ) QV := (rfl)
@[simp ↓] theorem w_vS {f : Rho → R (D × Bool)} {g : Rho → R (List Av)} : wpR (vS f g ρ) QV = wpR (f ρ) (ThR (fun a ρ1 => (g ρ1).bind fun as ρ2 => .ok (.val a.1 :: as) ρ2) QV) := wp_bind
def mkAv (a : D × Bool) : Av := if a.2 then .tmp a.1 else .val a.1
@[simp] theorem mkAv_t {d : D} : mkAv (d, true) = .tmp d := rfl
@[simp] theorem mkAv_f {d : D} : mkAv (d, false) = .val d := rfl
@[simp ↓] theorem w_vE {f : Rho → R (D × Bool)} {g : Rho → R (List Av)} : wpR (vE f g ρ) QV = wpR (f ρ) (ThR (fun a ρ1 => (g ρ1).bind fun as ρ2 => .ok (mkAv a :: as) ρ2) QV) := wp_bind
@[simp ↓] theorem w_fnP {n : Nat} {tl : List (Nat ⊕ D)} {ms : List Bool} {m : Mir} {fa : Rho → R (List Av)} : wpR (sFnP n tl ms m fa ρ) QE = wpR (fa ρ) (ThR (fun as ρ1 => sRun n tl ms m [] as ρ1) QE) := wp_bind
@[simp ↓] theorem w_fnK {n nk : Nat} {tl : List (Nat ⊕ D)} {ms : List Bool} {m : Mir} {fa : Rho → R (List Av)} {fk : Rho → R (List Opd)} : wpR (sFnK n nk tl ms m fa fk ρ) QE = wpR (fa ρ) (ThR (fun as ρ1 => sKw n nk tl ms m fk as ρ1) QE) := wp_bind
@[simp ↓] theorem w_it {f : Rho → R Opd} : wpR (sIt f ρ) QL = wpR (f ρ) (ThR (fun o ρ1 => R.of (walkD o) ρ1) QL) := wp_bind
@[simp ↓] theorem w_itR {g : List Opd → Option (List D)} {f : Rho → R (List Opd)} : wpR (sItR g f ρ) QL = wpR (f ρ) (ThR (fun os ρ1 => R.of (g os) ρ1) QL) := wp_bind
@[simp ↓] theorem w_enum {f : Rho → R (List Opd)} : wpR (sEnum f ρ) QL = wpR (f ρ) (ThR (fun os ρ1 => R.of (enumO os) ρ1) QL) := wp_bind
@[simp ↓] theorem w_lc {vs : List Nat} {t : Tg} {it : Rho → R (List D)} {tt : Rho → R Bool} {f : Rho → R (D × Bool)} : wpR (sLc vs t it tt f ρ) QE =
  wpR (it ρ) (ThR (fun ds ρ1 => (lcLoop vs t tt f ds [] (wipeR ρ1 vs)).bind fun acc ρ2 => .ok (.lst acc, true) ρ2) QE) := wp_bind
@[simp ↓] theorem w_par {i j : Nat} {g : Rho → R (List Opd)} : wpS (sPar i j g ρ) QS = wpR (g ρ) (ThX (fun os ρ1 => optS ((as2 (vals os)).bind fun p => (put1 i p.1 ρ1).bind (put1 j p.2)) fun ρ2 => .nx ρ2) QS) := by
  rw [← wp_rx]; congr 1; unfold sPar; congr 1; funext os ρ1
  cases vals os with
  | none => rfl
  | some l => match l with
    | [] => rfl
    | [_] => rfl
    | [d, e] => simp only [as2, Option.bind_some]; cases (put1 i d ρ1).bind (put1 j e) <;> rfl
    | _ :: _ :: _ :: _ => rfl
@[simp ↓] theorem w_asg {t : Tg} {f : Rho → R Opd} : wpS (sAsg t f ρ) QS = wpR (f ρ) (ThX (fun o ρ1 => optS ((asV o).bind fun d => t.set d ρ1) fun ρ2 => .nx ρ2) QS) := by
  rw [← wp_rx]; congr 1; unfold sAsg; congr 1; funext o ρ1
  cases o with
  | val d => simp only [asV, Option.bind_some]; cases t.set d ρ1 <;> rfl
  | var i => rfl
@[simp ↓] theorem w_setIx {i : Nat} {fi fv : Rho → R (D × Bool)} : wpS (sSetIx i fi fv ρ) QS = wpR (fv ρ) (ThX (fun a ρ1 => if isLst ρ1[i]? = true then Rx (fi ρ1) fun b ρ2 => (optS (setIx i b.1 a.1 ρ2) fun ρ3 => .nx ρ3) else .err) QS) := by
  rw [← wp_rx]; congr 1; unfold sSetIx; congr 1; funext a ρ1; congr 1; congr 1; funext b ρ2; cases setIx i b.1 a.1 ρ2 <;> rfl
@[simp ↓] theorem w_setF {cs : List PySem.Str} {i : Nat} {f : PySem.Str} {fv : Rho → R (D × Bool)} : wpS (sSetF cs i f fv ρ) QS = wpR (fv ρ) (ThX (fun a ρ1 => optS (setF cs i f a.1 ρ1) fun ρ2 => .nx ρ2) QS) := by
  rw [← wp_rx]; congr 1; unfold sSetF; congr 1; funext a ρ1; cases setF cs i f a.1 ρ1 <;> rfl
@[simp ↓] theorem w_mut {g : D → List D → Option (D × D)} {i : Nat} {fa : Rho → R (List Opd)} : wpR (sMut g i fa ρ) QE = if isLst ρ[i]? = true then wpR (fa ρ) (ThR (fun os ρ1 => optR ((vals os).bind (mutAt g i ρ1)) fun p => .ok (p.1, false) p.2) QE) else wpR .err QE := by
  have key : sMut g i fa ρ = if isLst ρ[i]? = true then (fa ρ).bind (fun os ρ1 => optR ((vals os).bind (mutAt g i ρ1)) fun p => .ok (p.1, false) p.2) else .err := by
    unfold sMut; congr 1; congr 1; funext os ρ1; cases (vals os).bind (mutAt g i ρ1) <;> rfl
  rw [key, wp_iteR, wp_bind]
@[simp ↓] theorem w_join {f g : Rho → R Opd} : wpR (sJoin f g ρ) QE = wpR (f ρ) (ThR (fun o ρ1 => optR (asS o) fun s => (g ρ1).bind fun o2 ρ2 => R.of ((peek ρ2 o2).bind (gJoin (.str s))) ρ2) QE) := by
  rw [← wp_bind]; congr 1; unfold sJoin; congr 1; funext o ρ1
  cases o with
  | val d => cases d <;> rfl
  | var i => rfl
@[simp ↓] theorem w_lenSet {f : Rho → R Opd} : wpR (sLenSet f ρ) QE = wpR (f ρ) (ThR (fun o ρ1 => optR (asS o) fun z => if z.length < 4000 then .ok (.int (nub z).length, false) ρ1 else .err) QE) := by
  rw [← wp_bind]; congr 1; unfold sLenSet; congr 1; funext o ρ1
  cases o with
  | val d => cases d <;> rfl
  | var i => rfl
@[simp ↓] theorem w_meth {tab : PySem.Str → Option MI} {mn : PySem.Str} {n : Nat} {fo : Rho → R Opd} {fa : Rho → R (List Av)} : wpR (sMeth tab mn n fo fa ρ) QE = wpR (fo ρ) (ThR (fun o ρ1 => optR ((peek ρ1 o).bind (mAt tab mn)) fun mi => (fa ρ1).bind fun as ρ2 => sRun (n + 1) mi.tl mi.ms mi.m [] (toAv o :: as) ρ2) QE) := by
  rw [← wp_bind]; congr 1; unfold sMeth; congr 1; funext o ρ1; cases (peek ρ1 o).bind (mAt tab mn) <;> rfl
@[simp ↓] theorem w_methK {tab : PySem.Str → Option MI} {mn : PySem.Str} {n nk : Nat} {fo : Rho → R Opd} {fa : Rho → R (List Av)} {fk : Rho → R (List Opd)} : wpR (sMethK tab mn n nk fo fa fk ρ) QE = wpR (fo ρ) (ThR (fun o ρ1 => optR ((peek ρ1 o).bind (mAt tab mn)) fun mi => (fa ρ1).bind fun as ρ2 => sKw (n + 1) nk mi.tl mi.ms mi.m fk (toAv o :: as) ρ2) QE) := by
  rw [← wp_bind]; congr 1; unfold sMethK; congr 1; funext o ρ1; cases (peek ρ1 o).bind (mAt tab mn) <;> rfl
def lenIs (n : Nat) (ds : List D) : Option (List D) := if ds.length = n then some ds else none
theorem w_kw_aux {os : List Opd} {nk : Nat} {k : List D → R β} : (match vals os with
    | some ds => if ds.length = nk then k ds else .err
    | none => .err) = optR ((vals os).bind (lenIs nk)) k := by
  cases vals os with
  | none => rfl
  | some ds => simp only [Option.bind_some, lenIs]; split <;> rfl
@[simp ↓] theorem w_kw {n nk : Nat} {tl : List (Nat ⊕ D)} {ms : List Bool} {m : Mir} {as : List Av} {fk : Rho → R (List Opd)} : wpR (sKw n nk tl ms m fk as ρ) QE = if noTmp as = true then wpR (fk ρ) (ThR (fun os ρ2 => optR ((vals os).bind (lenIs nk)) fun ds => sRun n tl ms m ds as ρ2) QE) else wpR .err QE := by
  have key : sKw n nk tl ms m fk as ρ = if noTmp as = true then (fk ρ).bind (fun os ρ2 => optR ((vals os).bind (lenIs nk)) fun ds => sRun n tl ms m ds as ρ2) else .err := by
    unfold sKw; congr 1; congr 1; funext os ρ1; exact w_kw_aux
  rw [key, wp_iteR, wp_bind]
@[simp ↓] theorem w_mkP {c : PySem.Str} {n : Nat} {tl : List (Nat ⊕ D)} {ms : List Bool} {m : Mir} {fa : Rho → R (List Av)} : wpR (sMkP c n tl ms m fa ρ) QE = wpR (fa ρ) (ThR (fun as ρ1 => sMk c n tl ms m [] as ρ1) QE) := wp_bind
@[simp ↓] theorem w_mkK {c : PySem.Str} {n nk : Nat} {tl : List (Nat ⊕ D)} {ms : List Bool} {m : Mir} {fa : Rho → R (List Av)} {fk : Rho → R (List Opd)} : wpR (sMkK c n nk tl ms m fa fk ρ) QE = wpR (fa ρ) (ThR (fun as ρ1 => if noTmp as = true then (fk ρ1).bind fun os ρ2 => (optR ((vals os).bind (lenIs nk)) fun ds => sMk c n tl ms m ds as ρ2) else .err) QE) := by
  rw [← wp_bind]; congr 1; unfold sMkK; congr 1; funext as ρ1; congr 1; congr 1; funext os ρ2; exact w_kw_aux
@[simp ↓] theorem w_inst {tab : PySem.Str → Option MI} {n : Nat} {fo : Rho → R Opd} {fa : Rho → R (List Av)} : wpR (sInst tab n fo fa ρ) QE = wpR (fo ρ) (ThR (fun o ρ1 => if isObjD (peek ρ1 o) = true then (fa ρ1).bind fun as ρ2 => optR ((peek ρ2 o).bind (cAt tab)) fun mi => sRun (n + 1) mi.tl mi.ms mi.m [] (toAv o :: as) ρ2 else .err) QE) := by
  rw [← wp_bind]; congr 1; unfold sInst; congr 1; funext o ρ1; congr 1; congr 1; funext as ρ2; cases (peek ρ2 o).bind (cAt tab) <;> rfl
@[simp ↓] theorem w_instK {tab : PySem.Str → Option MI} {n nk : Nat} {fo : Rho → R Opd} {fk : Rho → R (List Opd)} : wpR (sInstK tab n nk fo fk ρ) QE = wpR (fo ρ) (ThR (fun o ρ1 => if isObjD (peek ρ1 o) = true then (fk ρ1).bind fun os ρ2 => (optR ((peek ρ2 o).bind (cAt tab)) fun mi => optR ((vals os).bind (lenIs nk)) fun ds => sRun (n + 1) mi.tl mi.ms mi.m ds [toAv o] ρ2) else .err) QE) := by
  rw [← wp_bind]; congr 1; unfold sInstK; congr 1; funext o ρ1; congr 1; congr 1; funext os ρ2
  unfold instK
  cases (peek ρ2 o).bind (cAt tab) with
  | none => rfl
  | some mi => exact w_kw_aux
@[simp] theorem lenIs_ok {ds : List D} {n : Nat} (h : ds.length = n) : lenIs n ds = some ds := by simp [lenIs, h]
@[simp ↓] theorem w_callAt {ms : List Bool} {m : Mir} {as : List Av} : wpR (callAt ms m as ρ) QE = wpO (argsOf ρ ms as) (ThC m ρ QE) := by
  rw [a_callAt]
  cases argsOf ρ ms as with
  | none => rfl
  | some p => show wpR (match m p.1 with | .ok d fr outs => .ok (d, fr) (setOuts p.2 outs ρ) | .exc c fs outs => .exc c fs (setOuts p.2 outs ρ) | .err => .err) QE = wpM (m p.1) (ThM p.2 ρ QE); cases m p.1 <;> rfl
@[simp ↓] theorem w_run {n : Nat} {tl : List (Nat ⊕ D)} {ms : List Bool} {m : Mir} {ds : List D} {as : List Av} : wpR (sRun n tl ms m ds as ρ) QE = if as.length = n then wpO (tailD ds tl) (ThO (fun ts => callAt ms m (as ++ ts.map .val) ρ) QE) else wpR .err QE := by
  rw [a_run, wp_iteR]
  congr 1
  cases tailD ds tl <;> rfl
@[simp ↓] theorem w_makeAt {c : PySem.Str} {ms : List Bool} {m : Mir} {as : List Av} : wpR (makeAt c ms m as ρ) QE = wpO (argsOf ρ (true :: ms) (.tmp (.obj c []) :: as)) (ThD m ρ QE) := by
  unfold makeAt
  cases argsOf ρ (true :: ms) (.tmp (.obj c []) :: as) with
  | none => rfl
  | some p =>
    show wpR (match m p.1 with
      | .ok .non false (o :: outs) => .ok (o, true) (setOuts p.2 (o :: outs) ρ)
      | .exc e fs outs => .exc e fs (setOuts p.2 outs ρ)
      | _ => .err) QE = wpM (m p.1) (ThK p.2 ρ QE)
    cases m p.1 with
    | ok d fr outs =>
      cases d <;> try rfl
      cases fr <;> try rfl
      cases outs <;> rfl
    | exc c fs outs => rfl
    | err => rfl
@[simp ↓] theorem w_mk {c : PySem.Str} {n : Nat} {tl : List (Nat ⊕ D)} {ms : List Bool} {m : Mir} {ds : List D} {as : List Av} : wpR (sMk c n tl ms m ds as ρ) QE = if as.length = n then wpO (tailD ds tl) (ThO (fun ts => makeAt c ms m (as ++ ts.map .val) ρ) QE) else wpR .err QE := by
  unfold sMk
  rw [wp_iteR]
  congr 1
  cases tailD ds tl <;> rfl
/-! ## names -/
def ThN (i : Nat) (ρ : Rho) (Q : R (D × Bool) → Prop) : Option (Option (D × Kd)) → Prop
  | some (some (d, .sh)) => Q (.ok (d, false) ρ)
  | some (some (d, .ow)) => Q (.ok (d, false) (ρ.set i (some (d, .sh))))
  | _ => Q .err
def ThNo (i : Nat) (ρ : Rho) (Q : R Opd → Prop) : Option (Option (D × Kd)) → Prop
  | some (some (d, .sh)) => Q (.ok (.val d) ρ)
  | some (some _) => Q (.ok (.var i) ρ)
  | _ => Q .err
def ThNr (i : Nat) (ρ : Rho) (Q : Ss → Prop) : Option (Option (D × Kd)) → Prop
  | some (some (d, .sh)) => Q (.rt d false ρ)
  | some (some (d, .ow)) => Q (.rt d true (ρ.set i none))
  | _ => Q .err
def ThNv (i : Nat) (g : Rho → R (List Av)) (ρ : Rho) (Q : R (List Av) → Prop) : Option (Option (D × Kd)) → Prop
  | some (some (d, .sh)) => (ThR (fun as ρ2 => .ok (.val d :: as) ρ2) Q) (g ρ)
  | some (some _) => (ThR (fun as ρ2 => .ok (.var i :: as) ρ2) Q) (g ρ)
  | _ => Q .err
@[simp ↓] theorem w_sName {i : Nat} : wpR (sName i ρ) QE = wpO ρ[i]? (ThN i ρ QE) := by
  unfold sName
  generalize ρ[i]? = o
  match o with
  | none => rfl
  | some none => rfl
  | some (some (d, .sh)) => rfl
  | some (some (d, .ow)) => rfl
  | some (some (d, .pin)) => rfl
@[simp ↓] theorem w_oName {i : Nat} : wpR (oName i ρ) QO = wpO ρ[i]? (ThNo i ρ QO) := by
  unfold oName
  generalize ρ[i]? = o
  match o with
  | none => rfl
  | some none => rfl
  | some (some (d, .sh)) => rfl
  | some (some (d, .ow)) => rfl
  | some (some (d, .pin)) => rfl
@[simp ↓] theorem w_retV {i : Nat} : wpS (sRetV i ρ) QS = wpO ρ[i]? (ThNr i ρ QS) := by
  unfold sRetV
  generalize ρ[i]? = o
  match o with
  | none => rfl
  | some none => rfl
  | some (some (d, .sh)) => rfl
  | some (some (d, .ow)) => rfl
  | some (some (d, .pin)) => rfl
@[simp ↓] theorem w_vN {i : Nat} {g : Rho → R (List Av)} : wpR (vN i g ρ) QV = wpO ρ[i]? (ThNv i g ρ QV) := by
  unfold vN
  generalize ρ[i]? = o
  match o with
  | none => rfl
  | some none => rfl
  | some (some (d, .sh)) => exact wp_bind
  | some (some (d, .ow)) => exact wp_bind
  | some (some (d, .pin)) => exact wp_bind
@[simp ↓] theorem thn_sh {i : Nat} {d : D} : wpO (some (some (d, .sh))) (ThN i ρ QE) = wpR (.ok (d, false) ρ) QE := (rfl)
@[simp ↓] theorem thn_ow {i : Nat} {d : D} : wpO (some (some (d, .ow))) (ThN i ρ QE) = wpR (.ok (d, false) (ρ.set i (some (d, .sh)))) QE := (rfl)
@[simp ↓] theorem thno_sh {i : Nat} {d : D} : wpO (some (some (d, .sh))) (ThNo i ρ QO) = wpR (.ok (.val d) ρ) QO := (rfl)
@[simp ↓] theorem thno_ow {i : Nat} {d : D} : wpO (some (some (d, .ow))) (ThNo i ρ QO) = wpR (.ok (.var i) ρ) QO := (rfl)
@[simp ↓] theorem thno_pin {i : Nat} {d : D} : wpO (some (some (d, .pin))) (ThNo i ρ QO) = wpR (.ok (.var i) ρ) QO := (rfl)
@[simp ↓] theorem thnr_sh {i : Nat} {d : D} : wpO (some (some (d, .sh))) (ThNr i ρ QS) = wpS (.rt d false ρ) QS := (rfl)
@[simp ↓] theorem thnr_ow {i : Nat} {d : D} : wpO (some (some (d, .ow))) (ThNr i ρ QS) = wpS (.rt d true (ρ.set i none)) QS := (rfl)
@[simp ↓] theorem thnv_sh {i : Nat} {d : D} {g : Rho → R (List Av)} : wpO (some (some (d, .sh))) (ThNv i g ρ QV) = wpR (g ρ) (ThR (fun as ρ2 => .ok (.val d :: as) ρ2) QV) := (rfl)
@[simp ↓] theorem thnv_ow {i : Nat} {d : D} {g : Rho → R (List Av)} : wpO (some (some (d, .ow))) (ThNv i g ρ QV) = wpR (g ρ) (ThR (fun as ρ2 => .ok (.var i :: as) ρ2) QV) := (rfl)
@[simp ↓] theorem thnv_pin {i : Nat} {d : D} {g : Rho → R (List Av)} : wpO (some (some (d, .pin))) (ThNv i g ρ QV) = wpR (g ρ) (ThR (fun as ρ2 => .ok (.var i :: as) ρ2) QV) := (rfl)
end
/-! ## loops -/
def ThF (N : Rho → Prop) (Q : Ss → Prop) : Ss → Prop
  | .nx ρ => N ρ
  | .ct ρ => N ρ
  | .bk ρ => Q (.nx ρ)
  | r => Q r
def AtJ (N : Rho → Prop) (ρ : Rho) (_ : Tk N := ⟨⟩) : Prop := Bx (N ρ)
def AtK (N : Option D → Rho → Prop) (o : Option D) (ρ : Rho) (_ : Tk N := ⟨⟩) : Prop := Bx (N o ρ)
theorem at_ {N : Rho → Prop} {ρ : Rho} (h : N ρ) : AtJ N ρ := ⟨h⟩
theorem ak_ {N : Option D → Rho → Prop} {o : Option D} {ρ : Rho} (h : N o ρ) : AtK N o ρ := ⟨h⟩
@[simp ↓] theorem thf_nx {N : Rho → Prop} {Q : Ss → Prop} : wpS (.nx ρ) (ThF N Q) = AtJ N ρ := (rfl)
@[simp ↓] theorem thf_ct {N : Rho → Prop} {Q : Ss → Prop} : wpS (.ct ρ) (ThF N Q) = AtJ N ρ := (rfl)
@[simp ↓] theorem thf_bk {N : Rho → Prop} {Q : Ss → Prop} : wpS (.bk ρ) (ThF N Q) = wpS (.nx ρ) Q := (rfl)
@[simp ↓] theorem thf_rt {N : Rho → Prop} {Q : Ss → Prop} {d : D} {fr : Bool} : wpS (.rt d fr ρ) (ThF N Q) = wpS (.rt d fr ρ) Q := (rfl)
@[simp ↓] theorem thf_exc {N : Rho → Prop} {Q : Ss → Prop} {c : PySem.Str} {fs : List (PySem.Str × D)} : wpS (.exc c fs ρ) (ThF N Q) = wpS (.exc c fs ρ) Q := (rfl)
theorem w_forStep {t : Tg} {body : Rho → Ss} {d : D} {Q : Ss → Prop} : wpS (forStep t body d ρ) Q = wpO (t.set d ρ) (ThP body Q) := by
  unfold forStep
  cases t.set d ρ <;> rfl
def ThU (t : Tg) (body : Rho → Ss) (ds : List D) (Q : Ss → Prop) : Ss → Prop
  | .nx ρ => Q (forLoop t body ds ρ)
  | .ct ρ => Q (forLoop t body ds ρ)
  | .bk ρ => Q (.nx ρ)
  | r => Q r
@[simp ↓] theorem thu_nx {t : Tg} {body : Rho → Ss} {ds : List D} {Q : Ss → Prop} : wpS (.nx ρ) (ThU t body ds Q) = wpS (forLoop t body ds ρ) Q := (rfl)
@[simp ↓] theorem thu_ct {t : Tg} {body : Rho → Ss} {ds : List D} {Q : Ss → Prop} : wpS (.ct ρ) (ThU t body ds Q) = wpS (forLoop t body ds ρ) Q := (rfl)
@[simp ↓] theorem thu_bk {t : Tg} {body : Rho → Ss} {ds : List D} {Q : Ss → Prop} : wpS (.bk ρ) (ThU t body ds Q) = wpS (.nx ρ) Q := (rfl)
@[simp ↓] theorem thu_rt {t : Tg} {body : Rho → Ss} {ds : List D} {Q : Ss → Prop} {d : D} {fr : Bool} : wpS (.rt d fr ρ) (ThU t body ds Q) = wpS (.rt d fr ρ) Q := (rfl)
@[simp ↓] theorem thu_exc {t : Tg} {body : Rho → Ss} {ds : List D} {Q : Ss → Prop} {c : PySem.Str} {fs : List (PySem.Str × D)} : wpS (.exc c fs ρ) (ThU t body ds Q) = wpS (.exc c fs ρ) Q := (rfl)
theorem wp_for {t : Tg} {body : Rho → Ss} {Q : Ss → Prop} (J : Nat → Rho → Prop) : ∀ (ds : List D) (k : Nat) (ρ : Rho), J k ρ →
    (∀ j (h : j < ds.length) ρ, J (k + j) ρ → wpO (t.set ds[j] ρ) (ThP body (ThF (J (k + j + 1)) Q))) → (∀ ρ, J (k + ds.length) ρ → wpS (.nx ρ) Q) → wpS (forLoop t body ds ρ) Q
  | [], k, ρ, h, _, he => he ρ h
  | d :: ds, k, ρ, h, st, he => by
    have s0 := st 0 (by simp) ρ h
    have ih := fun ρ2 (h2 : J (k + 1) ρ2) => wp_for (t := t) (body := body) J ds (k + 1) ρ2 h2 (fun j hj r hr => by
      have := st (j + 1) (by simpa using hj) r (by rw [show k + (j + 1) = k + 1 + j by omega]; exact hr)
      rw [show k + (j + 1) + 1 = k + 1 + j + 1 by omega] at this
      exact this) (fun r hr => he r (by rw [List.length_cons, show k + (ds.length + 1) = k + 1 + ds.length by omega]; exact hr))
    simp only [List.getElem_cons_zero, Nat.add_zero] at s0
    rw [← w_forStep] at s0
    unfold wpS
    rw [for_cons]
    cases hb : forStep t body d ρ with
    | nx ρ2 => rw [hb] at s0; exact ih ρ2 s0.1
    | ct ρ2 => rw [hb] at s0; exact ih ρ2 s0.1
    | bk ρ2 => rw [hb] at s0; exact s0
    | rt d fr ρ2 => rw [hb] at s0; exact s0
    | exc c fs ρ2 => rw [hb] at s0; exact s0
    | err => rw [hb] at s0; exact s0
theorem wp_forA {t : Tg} {body : Rho → Ss} {Q : Ss → Prop} (J : Rho → Prop) {ds : List D} {ρ : Rho} (h : J ρ) (st : ∀ d ∈ ds, ∀ ρ, J ρ → wpO (t.set d ρ) (ThP body (ThF J Q))) (he : ∀ ρ, J ρ → wpS (.nx ρ) Q) : wpS (forLoop t body ds ρ) Q :=
  wp_for (fun _ => J) ds 0 ρ h (fun j hj r hr => st _ (List.getElem_mem hj) r hr) he
/-! ## comprehensions -/
def ThL (vs : List Nat) (N : Option D → Rho → Prop) : R (D × Bool) → Prop
  | .ok a ρ => N (some a.1) (wipeR ρ vs)
  | _ => False
def ThT (vs : List Nat) (f : Rho → R (D × Bool)) (N : Option D → Rho → Prop) : R Bool → Prop
  | .ok b ρ => if b = true then ThL vs N (f ρ) else N none (wipeR ρ vs)
  | _ => False
def ThI (vs : List Nat) (tt : Rho → R Bool) (f : Rho → R (D × Bool)) (N : Option D → Rho → Prop) : Option Rho → Prop
  | some ρ => (ThT vs f N) (tt ρ)
  | none => False
@[simp ↓] theorem thl_ok {vs : List Nat} {N : Option D → Rho → Prop} {a : D × Bool} : wpR (.ok a ρ) (ThL vs N) = AtK N (some a.1) (wipeR ρ vs) := (rfl)
@[simp ↓] theorem tht_ok {vs : List Nat} {f : Rho → R (D × Bool)} {N : Option D → Rho → Prop} {b : Bool} : wpR (.ok b ρ) (ThT vs f N) = if b = true then wpR (f ρ) (ThL vs N) else AtK N none (wipeR ρ vs) := by cases b <;> rfl
@[simp ↓] theorem thi_some {vs : List Nat} {tt : Rho → R Bool} {f : Rho → R (D × Bool)} {N : Option D → Rho → Prop} : wpO (some ρ) (ThI vs tt f N) = wpR (tt ρ) (ThT vs f N) := (rfl)
theorem w_lcStep {vs : List Nat} {t : Tg} {tt : Rho → R Bool} {f : Rho → R (D × Bool)} {d : D} {N : Option D → Rho → Prop} (h : wpO (t.set d ρ) (ThI vs tt f N)) : ∃ o ρ', lcStep vs t tt f d ρ = .ok o ρ' ∧ N o ρ' := by
  unfold lcStep
  cases h1 : t.set d ρ with
  | none => rw [h1] at h; exact h.1.elim
  | some ρ1 =>
    rw [h1] at h
    rw [thi_some] at h
    cases h2 : tt ρ1 with
    | exc c fs ρ2 => rw [h2] at h; exact h.1.elim
    | err => rw [h2] at h; exact h.1.elim
    | ok b ρ2 =>
      rw [h2, tht_ok] at h
      cases b with
      | false => exact ⟨none, _, by simp only [h2], (show AtK N none (wipeR ρ2 vs) from h).1⟩
      | true =>
        rw [if_pos rfl] at h
        cases h3 : f ρ2 with
        | exc c fs ρ3 => rw [h3] at h; exact h.1.elim
        | err => rw [h3] at h; exact h.1.elim
        | ok a ρ3 => rw [h3] at h; exact ⟨some a.1, _, by simp only [h2, h3], h.1⟩
def addO (acc : List D) : Option D → List D
  | some v => acc ++ [v]
  | none => acc
@[simp] theorem addO_s {acc : List D} {v : D} : addO acc (some v) = acc ++ [v] := rfl
@[simp] theorem addO_n {acc : List D} : addO acc none = acc := rfl
theorem wp_lcA {vs : List Nat} {t : Tg} {tt : Rho → R Bool} {f : Rho → R (D × Bool)} {Q : R (List D) → Prop} (J : Rho → Prop) (P : D → D → Prop) {ds : List D} {ρ : Rho} (h : J ρ) (hl : ds.length ≤ PySem.sizeLine)
    (st : ∀ d ∈ ds, ∀ ρ, J ρ → wpO (t.set d ρ) (ThI vs tt f fun o ρ' => ∃ v, o = some v ∧ P d v ∧ J ρ')) (he : ∀ es ρ, Pd P ds es → J ρ → wpR (.ok es ρ) Q) : wpR (lcLoop vs t tt f ds [] ρ) Q := by
  obtain ⟨es, ρ', e, p, j⟩ := lc_inv J P ds [] ρ h (by simpa using hl) fun d hd ρ hJ => by
    obtain ⟨o, ρ', e1, v, rfl, hp, hj⟩ := w_lcStep (st d hd ρ hJ)
    exact ⟨v, ρ', e1, hp, hj⟩
  unfold wpR
  rw [e]
  exact he _ _ p j
@[simp] theorem intsD_get {lo : Int} {n j : Nat} (h : j < (intsD lo n).length) : (intsD lo n)[j] = .int (lo + (j : Int)) := by simp [intsD]
@[simp] theorem rOk_s {j : Int} (h0 : -1000000 ≤ j) (h : j ≤ 1000000) : rOk j = true := rOk_small h0 h
@[simp] theorem gMod_ok {i j : Int} (h : 0 < j) : gMod (.int i) (.int j) = some (.int (i % j), false) := gMod_int h
@[simp] theorem gDiv_ok {i j : Int} (h : 0 < j ∧ j < 1073741824) : gDiv (.int i) (.int j) = some (.int (i / j), false) := gDiv_int h
end Nu
namespace Nu
open PySem PySem.Spec PyProof.Rows L2
variable [WorldI]
/-! ## isinstance of own classes -/
structure IsCOk (K : PySem.W.Frag) (cs : List Str) (cn : Str) : Prop where
  own : ∀ c ∈ cs, Cls K (He.ga K c) ∧ PySem.W.findIn K (.ref (He.ga K c)) "__class__" = some (some (.builtin "object.__class__")) ∧ PySem.W.mroIn K (He.ga K c) (.type "object") = some true ∧ PySem.W.kitOne K (.ref (He.ga K c)) (.ref (He.ga K cn)) = some (decide (c = cn))
  sp : PySem.W.specialIn K (.builtin "object.__class__") "__get__" = some (some (.builtin "getset_descriptor.__get__"))
  tk : PySem.W.takesIn K (.builtin "object.__class__") = some true
  blt : ∀ t ∈ bltTys, PySem.W.kitOne K (.type t) (.ref (He.ga K cn)) = some false
def gIsC (cs : List Str) (cn : Str) : D → Option (D × Bool)
  | .obj c _ => if c ∈ cs then some (.bl (decide (c = cn)), false) else none
  | d => (tyD d).map fun _ => (.bl false, false)
def sIsC (cs : List Str) (cn : Str) (f : Rho → R Opd) (ρ : Rho) : R (D × Bool) := (f ρ).bind fun o ρ1 => R.of ((peek ρ1 o).bind (gIsC cs cn)) ρ1
section
variable {C : Cq} {Z Z' F F' H H' : Hp} {σ σ' : St} {ρ ρ' : Rho} {X : Cx}
end
@[simp ↓] theorem w_isC {cs : List Str} {cn : Str} {f : Rho → R Opd} {ρ : Rho} {QE : R (D × Bool) → Prop} : wpR (sIsC cs cn f ρ) QE = wpR (f ρ) (ThR (fun o ρ1 => R.of ((peek ρ1 o).bind (gIsC cs cn)) ρ1) QE) := wp_bind
@[simp] theorem gIsC_obj {cs : List Str} {cn c : Str} {fs : List (Str × D)} (h : c ∈ cs) : gIsC cs cn (.obj c fs) = some (.bl (decide (c = cn)), false) := by simp [gIsC, h]
/-! ## an empty tuple as a default -/
/-! ## a tuple so many times -/
theorem tuple_mul1 (l : Addr) (items : Array Value) (n : Nat) (dd : Option Addr) (sl : Array (Option Value)) (x : Int) (u : Tok) (c0 : (decide (x < -(2 ^ 63)) || decide (x ≥ 2 ^ 63)) = false) (c1 : (items.isEmpty || x == 1) = true) :
    Meets (Builtin.«tuple.__mul__» ⟨[.ref l, .int x u], []⟩) (fun _ R s => s.heap.get? l = some { cls := .type "tuple", dict := dd, data := .seq items n, slots := sl } ∧ R (.ok (.ret (Value.ref l))) s) :=
  .of_wp fun prog w A R s h => by
    obtain ⟨hp, g, d, tk, os⟩ := s
    obtain ⟨hl, h⟩ := h
    have f1 := AutoSeq1.idx_int
    wp_walk using wpAny_loadPart' hl
    repeat (first
      | (refine wpAny_ite_false (decide_eq_false (by rw [c0]; exact Bool.false_ne_true)) ?_; wp_walk using wpAny_loadPart' hl)
      | (refine wpAny_ite_true (decide_eq_true c1) ?_; wp_walk using wpAny_loadPart' hl))
    exact ⟨_, rfl, h⟩
theorem tuple_mul0 (l : Addr) (items : Array Value) (n : Nat) (dd : Option Addr) (sl : Array (Option Value)) (x : Int) (u : Tok) (c0 : (decide (x < -(2 ^ 63)) || decide (x ≥ 2 ^ 63)) = false) (c1 : (items.isEmpty || x == 1) = false) (c2 : (decide (x ≤ 0) || items.isEmpty) = true) :
    Meets (Builtin.«tuple.__mul__» ⟨[.ref l, .int x u], []⟩) (fun _ R s => s.heap.get? l = some { cls := .type "tuple", dict := dd, data := .seq items n, slots := sl } ∧
      R (.ok (.ret (Value.ref s.heap.objs.size))) { s with heap := s.heap.push { cls := Value.type "tuple", data := Data.seq #[] }, toks := s.toks }) :=
  .of_wp fun prog w A R s h => by
    obtain ⟨hp, g, d, tk, os⟩ := s
    obtain ⟨hl, h⟩ := h
    have f1 := AutoSeq1.idx_int
    wp_walk using wpAny_loadPart' hl
    repeat (first
      | (refine wpAny_ite_false (decide_eq_false (by rw [c0]; exact Bool.false_ne_true)) ?_; wp_walk using wpAny_loadPart' hl)
      | (refine wpAny_ite_false (decide_eq_false (by rw [c1]; exact Bool.false_ne_true)) ?_; wp_walk using wpAny_loadPart' hl)
      | (refine wpAny_ite_true (decide_eq_true c2) ?_; wp_walk using wpAny_loadPart' hl))
    exact ⟨_, rfl, h⟩
def rRepT1 (K : PySem.W.Frag) : R2 := fun x y H Q => ∃ l k xs, x = .ref l ∧ y = .int k ∧ SqT K H l xs ∧ -1000 ≤ k ∧ k ≤ 1000 ∧ (xs = [] ∨ k = 1) ∧ Q (.ref l) H
def rRepT0 (K : PySem.W.Frag) : R2 := fun x y H Q => ∃ l k xs, x = .ref l ∧ y = .int k ∧ SqT K H l xs ∧ xs ≠ [] ∧ -1000 ≤ k ∧ k ≤ 0 ∧ ∀ p, H p = none → Q (.ref p) (upd H p (.tup []))
section
variable {X : Cx}
theorem op_repT1 : OpR X (binaryOp .Mult) (rRepT1 X.K) := by
  intro pins s σ H x y v u Q I rx ry h
  obtain ⟨l, k, xs, rfl, rfl, hT, h1, h2, h3, q⟩ := h
  cases rx
  obtain ⟨t, rfl⟩ := ry
  obtain ⟨its, r, ⟨⟨cls, dd, data, sl⟩, ho, hc, n, hd⟩, hs⟩ := I.tuple hT
  simp only at hc hd
  subst hc hd
  have hle : its.length = xs.length := r.length.symm
  have c0 : (decide (k < -(2 ^ 63)) || decide (k ≥ 2 ^ 63)) = false := by
    rw [decide_eq_false (by omega), decide_eq_false (by omega)] <;> rfl
  have c1 : (its.toArray.isEmpty || k == 1) = true := by
    rcases h3 with h3 | h3
    · subst h3
      rw [List.eq_nil_of_length_eq_zero hle]
      rfl
    · subst h3; simp
  exact wpAny_binaryOp_repeat_ref (T := "tuple") (U := "int") (by decide) ⟨_, ho, rfl⟩ (fun s' => typeIs_int s' k t) noFill_tuple_mul F.fills_int_mul F.slot_int_rmul repeat_tuple F.slot_int_index.lookup
    (call_meets F.slot_int_rmul (typeIs_int s k t) F.entry_int_rmul (F.args_int_rmul_2 _ _) (int_rmul_tuple k t l its.toArray n dd sl)
      ⟨ho, rfl, ⟨_, ho, rfl⟩, call_meets F.slot_tuple_mul ⟨_, ho, rfl⟩ F.entry_tuple_mul (F.args_tuple_mul_2 _ _) (tuple_mul1 l its.toArray n dd sl k t c0 c1) ⟨ho, ⟨.ref l, H, I.tok _, rfl, q⟩⟩⟩)
theorem op_repT0 : OpR X (binaryOp .Mult) (rRepT0 X.K) := by
  intro pins s σ H x y v u Q I rx ry h
  obtain ⟨l, k, xs, rfl, rfl, hT, hne, h1, h2, q⟩ := h
  cases rx
  obtain ⟨t, rfl⟩ := ry
  obtain ⟨its, r, ⟨⟨cls, dd, data, sl⟩, ho, hc, n, hd⟩, hs⟩ := I.tuple hT
  simp only at hc hd
  subst hc hd
  have hle : its.length = xs.length := r.length.symm
  have hi : its.toArray.isEmpty = false := by
    cases its with
    | nil => exact absurd (List.eq_nil_of_length_eq_zero hle.symm) hne
    | cons a b => rfl
  have c0 : (decide (k < -(2 ^ 63)) || decide (k ≥ 2 ^ 63)) = false := by
    rw [decide_eq_false (by omega), decide_eq_false (by omega)] <;> rfl
  have c1 : (its.toArray.isEmpty || k == 1) = false := by
    rw [hi, Bool.false_or]
    exact beq_eq_false_iff_ne.mpr (by omega)
  have c2 : (decide (k ≤ 0) || its.toArray.isEmpty) = true := by
    rw [decide_eq_true h2]; rfl
  refine wpAny_binaryOp_repeat_ref (T := "tuple") (U := "int") (by decide) ⟨_, ho, rfl⟩ (fun s' => typeIs_int s' k t) noFill_tuple_mul F.fills_int_mul F.slot_int_rmul repeat_tuple F.slot_int_index.lookup
    (call_meets F.slot_int_rmul (typeIs_int s k t) F.entry_int_rmul (F.args_int_rmul_2 _ _) (int_rmul_tuple k t l its.toArray n dd sl)
      ⟨ho, rfl, ⟨_, ho, rfl⟩, call_meets F.slot_tuple_mul ⟨_, ho, rfl⟩ F.entry_tuple_mul (F.args_tuple_mul_2 _ _) (tuple_mul0 l its.toArray n dd sl k t c0 c1 c2) ⟨ho, ?_⟩⟩)
  refine ⟨.ref s.heap.objs.size, _, I.laid (t' := s.toks) (o := .tup []) (fun b ob q => Heap.get?_push_of_some _ q) (Nat.le_refl _) ?_, rfl, q _ (I.hok.fresh (Nat.le_refl _))⟩
  exact ⟨by rw [sizeLine_eq]; simp, _, .nil, IsTup.new _ _⟩
end
def gMulT : D → D → Option (D × Bool)
  | .tup ds, .int j => if -1000 ≤ j ∧ j ≤ 1000 ∧ ds.length ≤ 1000 then some (.tup (List.replicate j.toNat ds).flatten, false) else none
  | a, b => gMul a b
section
variable {C : Cq} {X : Cx}
theorem de_mulT {f1 f2 : Rho → R Opd} {a b : Expr} {pos : Pos} (hk : X.K = C.K) (ha : PE X a (tO C f1)) (hb : PE X b (tO C f2)) : PE X (.BinOp a .Mult b pos) (tE C (sOp2 gMulT f1 f2)) := by
  refine de_op2 (OpR.or (OpR.or op_mul (OpR.or op_mulS op_rep)) (OpR.or op_repT1 (OpR.or op_repT0 op_repT))) ?_ ha hb
  intro F H x y dx dy d fr Q l rx ry e k
  cases dy with
  | int j =>
    cases dx with
    | int i =>
      have e' : (if (i.natAbs < 2 ^ 64 ∨ j.natAbs < 2 ^ 64) then some (D.int (i * j), false) else none) = some (d, fr) := e
      split at e'
      · rename_i h
        cases e'
        exact .inl (.inl ⟨i, j, rx.int, ry.int, (show CMul i j from h.elim (fun h => .inl (by omega)) fun h => .inr (by omega)), grow_same l (.int _) k⟩)
      · cases e'
    | str z =>
      have e' : (if j.natAbs < 2 ^ 20 ∧ z.length < 2 ^ 20 ∧ z.length * j.toNat ≤ sizeLine then some (D.str (repS z j), false) else none) = some (d, fr) := e
      split at e'
      · rename_i h
        cases e'
        obtain ⟨h1, h2, h3⟩ := h
        refine .inl (.inr (.inl ⟨_, _, rx.str, ry.int, ⟨?_, ?_, ?_⟩, ?_⟩))
        · rw [decide_eq_false (by omega), decide_eq_false (by omega)]; rfl
        · intro hn _ hc
          rw [toStr_length] at hc
          have : (2 ^ 63 - 1 : Int) / j ≥ 2 ^ 40 := by
            have hj : (0 : Int) < j := by omega
            rw [ge_iff_le, Int.le_ediv_iff_mul_le hj]
            have : (2 : Int) ^ 40 * j ≤ 2 ^ 40 * 2 ^ 20 := Int.mul_le_mul_of_nonneg_left (by omega) (by decide)
            omega
          omega
        · intro hn _
          rw [toStr_length]
          unfold Builtin.Str.tooLong
          exact decide_eq_false (by omega)
        · rw [mul_toStr]; exact grow_same l (.str _) k
      · cases e'
    | lst ds =>
      have e' : (if j.natAbs < 2 ^ 20 ∧ ds.length * j.toNat ≤ sizeLine then some (D.lst (List.replicate j.toNat ds).flatten, true) else none) = some (d, fr) := e
      split at e'
      · rename_i h
        cases e'
        obtain ⟨p, vs, rfl, hp, r1⟩ := rx.lst l
        exact .inl (.inr (.inr ⟨p, j, vs, rfl, ry.int, hp, by omega, by omega, by rw [r1.length]; exact h.2, fun t nt => grow_lst l nt (r1.rep _) k⟩))
      · cases e'
    | tup ds =>
      have e' : (if -1000 ≤ j ∧ j ≤ 1000 ∧ ds.length ≤ 1000 then some (D.tup (List.replicate j.toNat ds).flatten, false) else none) = some (d, fr) := e
      split at e'
      · rename_i h
        obtain ⟨h1, h2, h3⟩ := h
        cases e'
        obtain ⟨p, vs, rfl, hp, hpf, r1⟩ := rx.tup l
        rw [hk]
        by_cases hv : vs = [] ∨ j = 1
        · refine .inr (.inl ⟨p, j, vs, rfl, ry.int, hp, h1, h2, hv, grow_same l ?_ k⟩)
          rcases hv with hv | hv
          · subst hv
            cases r1
            rw [List.flatten_replicate_nil]
            exact .tup hpf .nil
          · subst hv
            rw [show (1 : Int).toNat = 1 from rfl, List.replicate_one, List.flatten_singleton]
            exact .tup hpf r1
        · have hv1 : vs ≠ [] := fun e => hv (.inl e)
          have hv2 : j ≠ 1 := fun e => hv (.inr e)
          by_cases hj : j ≤ 0
          · refine .inr (.inr (.inl ⟨p, j, vs, rfl, ry.int, hp, hv1, h1, hj, fun t nt => ?_⟩))
            rw [show j.toNat = 0 by omega, List.replicate_zero, List.flatten_nil] at k
            exact grow_tup l nt .nil k
          · exact .inr (.inr (.inr ⟨p, j, vs, rfl, ry.int, hp, hv1, by omega, h2, by rw [r1.length]; exact h3, fun t nt => grow_tup l nt (r1.rep _) k⟩))
      · cases e'
    | _ => cases e
  | _ => cases dx <;> cases e
end
@[simp] theorem gMulT_i {i : Int} {d : D} : gMulT (.int i) d = gMul (.int i) d := by cases d <;> rfl
@[simp] theorem gMulT_s {i : List Cp} {d : D} : gMulT (.str i) d = gMul (.str i) d := by cases d <;> rfl
@[simp] theorem gMulT_l {i : List D} {d : D} : gMulT (.lst i) d = gMul (.lst i) d := by cases d <;> rfl
end Nu
namespace Nu
open PySem PySem.Spec PyProof.Rows L2
variable [WorldI]
/-! ## a, b = x, y: what is new stays owned -/
def putV (i : Nat) (a : Av) (ρ : Rho) : Option Rho := match a with
  | .val d => if isPin ρ[i]? = true then none else some (ρ.set i (some (d, .sh)))
  | .tmp d => if isPin ρ[i]? = true then none else some (ρ.set i (some (d, .ow)))
  | .var _ => none
def as2V : List Av → Option (Av × Av)
  | [a, b] => some (a, b)
  | _ => none
def sParV (i j : Nat) (g : Rho → R (List Av)) (ρ : Rho) : Ss := Rx (g ρ) fun as ρ1 => optS ((as2V as).bind fun p => (putV i p.1 ρ1).bind (putV j p.2)) fun ρ2 => .nx ρ2
section
variable {C : Cq} {Z Z' F F' H H' : Hp} {σ σ' : St} {ρ ρ' : Rho} {X : Cx}
theorem avs2 {K : PySem.W.Frag} {vs : List V} {a b : Av} (h : Avs K Z F H σ ρ vs [a, b]) : ∃ v w, vs = [v, w] := by
  cases h with
  | val _ r => cases r with
    | val _ q => cases q; exact ⟨_, _, rfl⟩
    | var _ q => cases q; exact ⟨_, _, rfl⟩
    | tmp _ _ _ q => cases q; exact ⟨_, _, rfl⟩
  | var _ r => cases r with
    | val _ q => cases q; exact ⟨_, _, rfl⟩
    | var _ q => cases q; exact ⟨_, _, rfl⟩
    | tmp _ _ _ q => cases q; exact ⟨_, _, rfl⟩
  | tmp _ _ _ r => cases r with
    | val _ q => cases q; exact ⟨_, _, rfl⟩
    | var _ q => cases q; exact ⟨_, _, rfl⟩
    | tmp _ _ _ q => cases q; exact ⟨_, _, rfl⟩
def avD : Av → Option (D × Bool)
  | .val d => some (d, false)
  | .tmp d => some (d, true)
  | .var _ => none
theorem putV_some {i : Nat} {a : Av} (h : putV i a ρ = some ρ') : ∃ p, avD a = some p ∧ isPin ρ[i]? = false ∧ ρ' = ρ.set i (some (p.1, if p.2 then .ow else .sh)) := by
  cases a with
  | val d =>
    simp only [putV] at h
    split at h
    · cases h
    · rename_i hp; cases h; exact ⟨_, rfl, by simpa using hp, rfl⟩
  | tmp d =>
    simp only [putV] at h
    split at h
    · cases h
    · rename_i hp; cases h; exact ⟨_, rfl, by simpa using hp, rfl⟩
  | var i => cases h
theorem SR.parV {K : PySem.W.Frag} {P : Nat → Addr} {i j : Nat} {v w : V} {a b : Av} {ρ1 ρ2 : Rho} (S : SR K P Z F σ ρ H) (r : Avs K Z F H σ ρ [v, w] [a, b]) (h1 : putV i a ρ = some ρ1) (h2 : putV j b ρ1 = some ρ2) : SR K P Z F ((σ.set i (some v)).set j (some w)) ρ2 H := by
  obtain ⟨p, e1, n1, rfl⟩ := putV_some h1
  obtain ⟨q, e2, n2, rfl⟩ := putV_some h2
  have ra : RvR K Z F H σ ρ v p.1 p.2 := by
    cases r with
    | val h _ => cases e1; exact h
    | var _ _ => cases e1
    | tmp h f _ _ => cases e1; exact ⟨_, rfl, h, f⟩
  have S1 := S.store ra n1
  refine S1.store ?_ n2
  cases r with
  | val h r =>
    cases e1
    cases r with
    | val h' _ => cases e2; exact h'
    | var _ _ => cases e2
    | tmp h' f' _ _ => cases e2; exact ⟨_, rfl, h', f'.set (.inr rfl)⟩
  | var _ _ => cases e1
  | tmp h f nt r =>
    cases e1
    cases r with
    | val h' _ => cases e2; exact h'
    | var _ _ => cases e2
    | tmp h' f' _ _ => cases e2; exact ⟨_, rfl, h', f'.set (.inl fun z => by injection z with z; subst z; exact nt (by simp [tmps]))⟩
theorem ds_parV {i j : Nat} {x y : Str} {a b : Expr} {g : Rho → R (List Av)} {px py pt pos : Pos} {kt k2 pt2} (hc : X.calm = true) (hN : X.N.Nodup) (hi : X.N[i]? = some x) (hj : X.N[j]? = some y) (hij : i ≠ j)
    (hx : X.env.scope.names.lookup x = some .local) (hy : X.env.scope.names.lookup y = some .local) (ha : PA X [a, b] (tV C g))
    (hw : swappedStores [.Tuple [.Name x px, .Name y py] kt pt] (.Tuple [a, b] k2 pt2) X.env = pure (some [x, y]))
    (hs : swapsWithSole [.Tuple [.Name x px, .Name y py] kt pt] (.Tuple [a, b] k2 pt2) pos.line X.env = pure false := by rfl) :
    PS X (.Assign [.Tuple [.Name x px, .Name y py] kt pt] (.Tuple [a, b] k2 pt2) pos) (tS C (sParV i j g)) :=
  PS.imp (ps_par hc hN hi hj hij hx hy ha hw hs) fun E σ H ⟨Z, F, ρ, S, m⟩ => tG.stepS S m fun as ρ1 F1 H1 vs l S1 ro m1 => by
    match as, ro, m1 with
    | [], _, m1 => exact m1.elim
    | [_], _, m1 => exact m1.elim
    | _ :: _ :: _ :: _, _, m1 => exact m1.elim
    | [a, b], ro, m1 =>
      obtain ⟨v, w, rfl⟩ := avs2 ro
      refine ⟨v, w, rfl, ?_⟩
      have m2 : AtS C Z F1 E (optS ((putV i a ρ1).bind (putV j b)) fun ρ2 => .nx ρ2) := m1
      cases q : (putV i a ρ1).bind (putV j b) with
      | none => rw [q] at m2; exact m2.elim
      | some ρ2 =>
        rw [q] at m2
        obtain ⟨ρ3, q1, q2⟩ := Option.bind_eq_some_iff.mp q
        exact m2 F1 H1 _ (Evl.Ex.refl F1) (S1.parV ro q1 q2)
end
/-! ## a comprehension turn by turn -/
def ThLu (vs : List Nat) (t : Tg) (tt : Rho → R Bool) (f : Rho → R (D × Bool)) (ds acc : List D) (Q : R (List D) → Prop) : R (D × Bool) → Prop
  | .ok a ρ => Q (lcLoop vs t tt f ds (acc ++ [a.1]) (wipeR ρ vs))
  | _ => Q .err
def ThLt (vs : List Nat) (t : Tg) (tt : Rho → R Bool) (f : Rho → R (D × Bool)) (ds acc : List D) (Q : R (List D) → Prop) : R Bool → Prop
  | .ok b ρ => if b = true then ThLu vs t tt f ds acc Q (f ρ) else Q (lcLoop vs t tt f ds acc (wipeR ρ vs))
  | _ => Q .err
def ThLi (vs : List Nat) (t : Tg) (tt : Rho → R Bool) (f : Rho → R (D × Bool)) (ds acc : List D) (Q : R (List D) → Prop) : Option Rho → Prop
  | some ρ => ThLt vs t tt f ds acc Q (tt ρ)
  | none => Q .err
section
variable {ρ : Rho} {vs : List Nat} {t : Tg} {tt : Rho → R Bool} {f : Rho → R (D × Bool)} {ds acc : List D} {Q : R (List D) → Prop}
@[simp ↓] theorem thlu_ok {a : D × Bool} : wpR (.ok a ρ) (ThLu vs t tt f ds acc Q) = wpR (lcLoop vs t tt f ds (acc ++ [a.1]) (wipeR ρ vs)) Q := (rfl)
@[simp ↓] theorem thlt_ok {b : Bool} : wpR (.ok b ρ) (ThLt vs t tt f ds acc Q) = if b = true then wpR (f ρ) (ThLu vs t tt f ds acc Q) else wpR (lcLoop vs t tt f ds acc (wipeR ρ vs)) Q := by cases b <;> rfl
@[simp ↓] theorem thli_some : wpO (some ρ) (ThLi vs t tt f ds acc Q) = wpR (tt ρ) (ThLt vs t tt f ds acc Q) := (rfl)
end
section
variable {ρ : Rho} {QS : Ss → Prop}
@[simp ↓] theorem w_parV {i j : Nat} {g : Rho → R (List Av)} : wpS (sParV i j g ρ) QS = wpR (g ρ) (ThX (fun as ρ1 => optS ((as2V as).bind fun p => (putV i p.1 ρ1).bind (putV j p.2)) fun ρ2 => .nx ρ2) QS) := wp_rx
@[simp] theorem as2V_2 {a b : Av} : as2V [a, b] = some (a, b) := rfl
@[simp] theorem putV_v {i : Nat} {d : D} : putV i (.val d) ρ = if isPin ρ[i]? = true then none else some (ρ.set i (some (d, .sh))) := rfl
@[simp] theorem putV_t {i : Nat} {d : D} : putV i (.tmp d) ρ = if isPin ρ[i]? = true then none else some (ρ.set i (some (d, .ow))) := rfl
end
end Nu
namespace Nu
open PySem PySem.Spec PyProof.Rows L2
variable [WorldI]
section
variable {C : Cq} {Z Z' F F' H H' : Hp} {σ σ' : St} {ρ ρ' : Rho} {X : Cx}
/-! ## operators of own classes -/
structure OpMeth (K : PySem.W.Frag) (c mn : Str) : Prop where
  fi : PySem.W.findIn K (.ref (He.ga K c)) mn = some (some (.ref (He.ma K (He.ga K c) mn)))
  fn : PySem.W.isFn K (.ref (He.ma K (He.ga K c) mn)) = true
  sf : PySem.W.selfFirst K (He.ga K c) = true
  fni : PySem.W.fnIn K (He.ma K (He.ga K c) mn) = true
def clsOf : D → Option Str
  | .obj c _ => some c
  | _ => none
def sBin (tab : Str → Option MI) (f1 f2 : Rho → R Opd) (ρ : Rho) : R (D × Bool) :=
  (f1 ρ).bind fun o1 ρ1 => (f2 ρ1).bind fun o2 ρ2 => optR ((((peek ρ2 o1).bind clsOf).bind fun c => ((peek ρ2 o2).bind clsOf).bind fun c' => if c' = c then tab c else none)) fun mi => sRun 2 mi.tl mi.ms mi.m [] [toAv o1, toAv o2] ρ2
theorem relO_later {K : PySem.W.Frag} {v : V} {o : Opd} {F2 H2 : Hp} {ρ2 : Rho} (l : Le F F2) (r : relO K Z F H σ ρ v o) : relO K Z F2 H2 σ ρ2 v o := relO.mono (Z := Z) (H := H) (H' := H2) (ρ := ρ) (ρ' := ρ2) (K := K) l r
theorem at_opt {α : Type} {Q : VK} {o : Option α} {g : α → R (D × Bool)} (h : At C (relE C.K) Z F σ Q (optR o g)) : ∃ a, o = some a ∧ At C (relE C.K) Z F σ Q (g a) := by
  cases o with
  | none => exact h.elim
  | some a => exact ⟨a, rfl, h⟩
/-! ## len of an object -/
def smallI : D × Bool → Option Int
  | (.int n, false) => if 0 ≤ n ∧ n < 2 ^ 62 then some n else none
  | _ => none
def sLenO (tab : Str → Option MI) (f : Rho → R Opd) (ρ : Rho) : R (D × Bool) := (f ρ).bind fun o ρ1 => optR (((peek ρ1 o).bind clsOf).bind tab) fun mi => (sRun 1 mi.tl mi.ms mi.m [] [toAv o] ρ1).bind fun a ρ2 => optR (smallI a) fun n => .ok (.int n, false) ρ2
/-! ## list(range(a, b)) -/
def gRgL (i j : Int) : Option (D × Bool) := if rOk i = true ∧ rOk j = true ∧ (j - i).toNat ≤ 2 ^ 24 then some (.lst (intsD i (j - i).toNat), true) else none
def sRgL (f1 f2 : Rho → R (D × Bool)) (ρ : Rho) : R (D × Bool) := (f1 ρ).bind fun a ρ1 => (f2 ρ1).bind fun b ρ2 => R.of ((asI a.1).bind fun i => (asI b.1).bind fun j => gRgL i j) ρ2
end
section
variable {ρ : Rho} {QE : R (D × Bool) → Prop}
@[simp ↓] theorem w_bin {tab : Str → Option MI} {f1 f2 : Rho → R Opd} : wpR (sBin tab f1 f2 ρ) QE = wpR (f1 ρ) (ThR (fun o1 ρ1 => (f2 ρ1).bind fun o2 ρ2 => optR ((((peek ρ2 o1).bind clsOf).bind fun c => ((peek ρ2 o2).bind clsOf).bind fun c' => if c' = c then tab c else none)) fun mi => sRun 2 mi.tl mi.ms mi.m [] [toAv o1, toAv o2] ρ2) QE) := wp_bind
@[simp ↓] theorem w_lenO {tab : Str → Option MI} {f : Rho → R Opd} : wpR (sLenO tab f ρ) QE = wpR (f ρ) (ThR (fun o ρ1 => optR (((peek ρ1 o).bind clsOf).bind tab) fun mi => (sRun 1 mi.tl mi.ms mi.m [] [toAv o] ρ1).bind fun a ρ2 => optR (smallI a) fun n => .ok (.int n, false) ρ2) QE) := wp_bind
@[simp ↓] theorem w_rgL {f1 f2 : Rho → R (D × Bool)} : wpR (sRgL f1 f2 ρ) QE = wpR (f1 ρ) (ThR (fun a ρ1 => (f2 ρ1).bind fun b ρ2 => R.of ((asI a.1).bind fun i => (asI b.1).bind fun j => gRgL i j) ρ2) QE) := wp_bind
@[simp] theorem clsOf_o {c : Str} {fs : List (Str × D)} : clsOf (.obj c fs) = some c := rfl
end
end Nu
namespace Nu
open PySem PySem.Spec PyProof.Rows L2
variable [WorldI]
/-! ## data equal to itself -/
mutual
def dataB : Nat → D → Bool
  | _, .non => true
  | _, .bl _ => true
  | _, .int _ => true
  | _, .str _ => true
  | 0, .tup _ => false
  | 0, .lst _ => false
  | n + 1, .tup ds => datasB n ds
  | n + 1, .lst ds => datasB n ds
  | _, _ => false
def datasB : Nat → List D → Bool
  | _, [] => true
  | n, d :: ds => dataB n d && datasB n ds
end
mutual
theorem data_py : ∀ (n : Nat) (d : D), dataB n d = true → ∃ p, toPy d = some p ∧ p.canLay0 = true ∧ p.depth ≤ n
  | n, .non, _ => ⟨.none, by simp [toPy], by simp [PyData.canLay0], by simp [PyData.depth]⟩
  | n, .bl b, _ => ⟨.bool b, by simp [toPy], by simp [PyData.canLay0], by simp [PyData.depth]⟩
  | n, .int b, _ => ⟨.int b, by simp [toPy], by simp [PyData.canLay0], by simp [PyData.depth]⟩
  | n, .str b, _ => ⟨.str (toStr b), by simp [toPy], by simp [PyData.canLay0, strOk_toStr], by simp [PyData.depth]⟩
  | 0, .tup _, h => by simp [dataB] at h
  | 0, .lst _, h => by simp [dataB] at h
  | n + 1, .tup ds, h => by
    obtain ⟨ps, e, h1, h2⟩ := datas_py n ds (by simpa [dataB] using h)
    exact ⟨.tuple ps, by simp [toPy, e], by simp [PyData.canLay0, h1], by simp [PyData.depth]; exact h2⟩
  | n + 1, .lst ds, h => by
    obtain ⟨ps, e, h1, h2⟩ := datas_py n ds (by simpa [dataB] using h)
    exact ⟨.list ps, by simp [toPy, e], by simp [PyData.canLay0, h1], by simp [PyData.depth]; exact h2⟩
  | n, .ty _, h => by simp [dataB] at h
  | n, .cls _, h => by simp [dataB] at h
  | n, .obj _ _, h => by simp [dataB] at h
  | n, .scr _, h => by simp [dataB] at h
theorem datas_py : ∀ (n : Nat) (ds : List D), datasB n ds = true → ∃ ps, toPys ds = some ps ∧ PyData.canLayAll0 ps = true ∧ PyData.depthAll ps ≤ n
  | n, [], _ => ⟨[], by simp [toPys], by simp [PyData.canLayAll0], by simp [PyData.depthAll]⟩
  | n, d :: ds, h => by
    have h' : dataB n d = true ∧ datasB n ds = true := by simpa [datasB] using h
    obtain ⟨p, e, h1, h2⟩ := data_py n d h'.1
    obtain ⟨ps, e', h3, h4⟩ := datas_py n ds h'.2
    exact ⟨p :: ps, by simp [toPys, e, e'], by simp [PyData.canLayAll0, h1, h3], by simp [PyData.depthAll]; omega⟩
end
mutual
theorem dataB_mono : ∀ (n : Nat) (d : D) (m : Nat), n ≤ m → dataB n d = true → dataB m d = true
  | n, .non, m, _, _ => by simp [dataB]
  | n, .bl b, m, _, _ => by simp [dataB]
  | n, .int b, m, _, _ => by simp [dataB]
  | n, .str b, m, _, _ => by simp [dataB]
  | 0, .tup _, m, _, h => by simp [dataB] at h
  | 0, .lst _, m, _, h => by simp [dataB] at h
  | n + 1, .tup ds, m, hm, h => by
    obtain ⟨k, rfl⟩ : ∃ k, m = k + 1 := ⟨m - 1, by omega⟩
    rw [dataB] at h ⊢
    exact datasB_mono n ds k (by omega) h
  | n + 1, .lst ds, m, hm, h => by
    obtain ⟨k, rfl⟩ : ∃ k, m = k + 1 := ⟨m - 1, by omega⟩
    rw [dataB] at h ⊢
    exact datasB_mono n ds k (by omega) h
  | n, .ty _, m, _, h => by simp [dataB] at h
  | n, .cls _, m, _, h => by simp [dataB] at h
  | n, .obj _ _, m, _, h => by simp [dataB] at h
  | n, .scr _, m, _, h => by simp [dataB] at h
theorem datasB_mono : ∀ (n : Nat) (ds : List D) (m : Nat), n ≤ m → datasB n ds = true → datasB m ds = true
  | n, [], m, _, _ => by simp [datasB]
  | n, d :: ds, m, hm, h => by
    have h' : dataB n d = true ∧ datasB n ds = true := by simpa [datasB] using h
    rw [datasB, dataB_mono n d m hm h'.1, datasB_mono n ds m hm h'.2]
    rfl
end
end Nu
namespace Nu
open PySem PySem.Spec PyProof.Rows L2
variable [WorldI]
/-! ## x[::-1] -/
section
variable {X : Cx}
end
section
variable {prog : Program} {w : World} {A : Around} {E : Value → Shared → Prop} {s : Shared}
end
section
variable {X : Cx}
end
end Nu
namespace Nu
open PySem PySem.Spec PyProof.Rows L2
variable [WorldI]
def gRev : D → Option (D × Bool)
  | .str z => if z.length ≤ sizeLine then some (.str z.reverse, false) else none
  | .lst ds => some (.lst ds.reverse, true)
  | .scr ds => some (.lst ds.reverse, true)
  | .tup ds => some (.tup ds.reverse, false)
  | _ => none
def sRev (f : Rho → R Opd) (ρ : Rho) : R (D × Bool) := (f ρ).bind fun o ρ1 => R.of ((peek ρ1 o).bind gRev) ρ1
section
variable {C : Cq} {Z Z' F F' H H' : Hp} {σ σ' : St} {ρ ρ' : Rho} {X : Cx}
end
@[simp ↓] theorem w_rev {f : Rho → R Opd} {ρ : Rho} {QE : R (D × Bool) → Prop} : wpR (sRev f ρ) QE = wpR (f ρ) (ThR (fun o ρ1 => R.of ((peek ρ1 o).bind gRev) ρ1) QE) := wp_bind
@[simp] theorem gRev_t {ds : List D} : gRev (.tup ds) = some (.tup ds.reverse, false) := rfl
@[simp] theorem gRev_l {ds : List D} : gRev (.lst ds) = some (.lst ds.reverse, true) := rfl
end Nu
namespace PySem.W
open PySem PySem.Calls PyProof.Rows Builtin
section
variable {prog : Program} {w : World} {A : Around} {E : Value → Shared → Prop} {s : Shared} {K : Frag} {x C L f : Addr} {h₀ : Heap} {m : Str → Option Value} {ox : Obj} {od : Option Obj} {b : Value}
end
end PySem.W
namespace Nu
open PySem PySem.Spec PyProof.Rows L2
variable [WorldI]
section
variable {C : Cq} {Z Z' F F' H H' : Hp} {σ σ' : St} {ρ ρ' : Rho} {X : Cx}
/-! ## != of objects: object's own, by the class's == -/
structure NeMeth (K : PySem.W.Frag) (c : Str) : Prop where
  fi : PySem.W.findIn K (.ref (He.ga K c)) "__ne__" = some (some (.builtin "object.__ne__"))
  mo : PySem.W.mroIn K (He.ga K c) (.type "object") = some true
def blNot : D × Bool → Option Bool
  | (.bl b, _) => some (!b)
  | _ => none
def sNeO (tab : Str → Option MI) (f1 f2 : Rho → R Opd) (ρ : Rho) : R (D × Bool) :=
  (f1 ρ).bind fun o1 ρ1 => (f2 ρ1).bind fun o2 ρ2 => optR ((((peek ρ2 o1).bind clsOf).bind fun c => ((peek ρ2 o2).bind clsOf).bind fun c' => if c' = c then tab c else none)) fun mi => (sRun 2 mi.tl mi.ms mi.m [] [toAv o1, toAv o2] ρ2).bind fun a ρ3 => optR (blNot a) fun b => .ok (.bl b, false) ρ3
end
section
variable {ρ : Rho} {QE : R (D × Bool) → Prop}
@[simp ↓] theorem w_neO {tab : Str → Option MI} {f1 f2 : Rho → R Opd} : wpR (sNeO tab f1 f2 ρ) QE = wpR (f1 ρ) (ThR (fun o1 ρ1 => (f2 ρ1).bind fun o2 ρ2 => optR ((((peek ρ2 o1).bind clsOf).bind fun c => ((peek ρ2 o2).bind clsOf).bind fun c' => if c' = c then tab c else none)) fun mi => (sRun 2 mi.tl mi.ms mi.m [] [toAv o1, toAv o2] ρ2).bind fun a ρ3 => optR (blNot a) fun b => .ok (.bl b, false) ρ3) QE) := wp_bind
@[simp] theorem blNot_b {b fr : Bool} : blNot (.bl b, fr) = some (!b) := rfl
end
end Nu
namespace Nu
open PySem PySem.Spec PyProof.Rows L2
variable [WorldI]
variable {C : Cq} {Z Z' F F' H H' : Hp} {σ σ' : St} {ρ ρ' : Rho} {X : Cx} {K : PySem.W.Frag}
/-! ## repr -/
def cpsOk (x : Str) : Bool := x.cps.toList.all fun c => decide (c < 1114112)
def ofStr (x : Str) : List Cp := x.cps.toList.map fun c => Fin.ofNat 1114112 c
theorem toStr_ofStr {x : Str} (h : cpsOk x = true) : toStr (ofStr x) = x := by
  obtain ⟨⟨l⟩⟩ := x
  unfold toStr ofStr
  unfold cpsOk at h
  rw [List.all_eq_true] at h
  congr 1
  simp only [List.map_map]
  have e : l.map ((fun (c : Cp) => c.val) ∘ fun c => Fin.ofNat 1114112 c) = l := by
    conv => rhs; rw [← List.map_id l]
    apply List.map_congr_left
    intro c hc
    have := of_decide_eq_true (h c hc)
    simp [Fin.ofNat, Nat.mod_eq_of_lt this]
  exact congrArg List.toArray e
def fitR (p : PyData) : Bool := p.showable && !p.hasDict && decide (p.depth ≤ 60) && decide (p.shown.length ≤ sizeLine) && cpsOk p.shown
def shw (d : D) : Option (List Cp) := (toPy d).bind fun p => if fitR p = true then some (ofStr p.shown) else none
def gRepr1 (d : D) : Option (D × Bool) := (shw d).map fun x => (.str x, false)
def gRepr : List D → Option (D × Bool)
  | [.emp] => some (.str (lit "{}"), false)
  | [d] => gRepr1 d
  | _ => none
def rRepr (K : PySem.W.Frag) : List V → Hp → VK → Prop := fun xs H Q => ∃ x, xs = [x] ∧ ((∃ p, Dp K H x p ∧ fitR p = true ∧ Q (.str p.shown) H) ∨ ∃ a, x = .ref a ∧ H a = some (.dK []) ∧ Q (.str (Str.ofString "{}")) H)
theorem o_repr : OpN K (rRepr K) gRepr := fun F H xs ds d fr Q l r e k => by
  match ds, r, e with
  | [dx], r, e =>
    obtain ⟨v, rfl, rv⟩ := rls1 r
    by_cases hd : dx = .emp
    · subst hd
      cases e
      refine ⟨v, rfl, .inr ?_⟩
      rcases rv with h | ⟨a, rfl, z⟩
      · cases h with
        | emp q =>
          have := grow_same l (Rel.str (K := K) (F := F) (lit "{}")) k
          rw [toStr_lit] at this
          exact ⟨_, rfl, l _ _ q, this⟩
      · exact z.elim
    · have e' : gRepr1 dx = some (d, fr) := by cases dx <;> first | exact absurd rfl hd | exact e
      obtain ⟨x, e1, e2⟩ := Option.map_eq_some_iff.mp (show (shw dx).map (fun x => (D.str x, false)) = some (d, fr) from e')
      cases e2
      obtain ⟨p, e3, e4⟩ := Option.bind_eq_some_iff.mp e1
      split at e4
      · rename_i hf
        cases e4
        refine ⟨v, rfl, .inl ⟨p, rv.dp l e3, hf, ?_⟩⟩
        have ho : cpsOk p.shown = true := by unfold fitR at hf; simp only [Bool.and_eq_true] at hf; exact hf.2
        have := grow_same l (Rel.str (K := K) (F := F) (ofStr p.shown)) k
        rw [toStr_ofStr ho] at this
        exact this
      · cases e4
  | [], _, e => cases e
  | dx :: _ :: _, _, e => cases dx <;> cases e
theorem repr_at {pins : List (Addr × Obj)} {s : Shared} {xs : List V} {us : List Value} {Q : VK} (un : X.A.units + 62 < cLine) (gd : X.A.guards = some []) (I : Inv X pins σ H s) (r : Vals xs us) (h : rRepr X.K xs H Q) : wpAny (model X.prog X.w) X.A (call (.builtin "repr") us) (EP X pins σ Q) X.xe s := by
  obtain ⟨x, rfl, h⟩ := h
  obtain ⟨u, rfl, ru⟩ := vals1 r
  rcases h with ⟨p, hp, hf, q⟩ | ⟨a, rfl, ha, q⟩
  · obtain ⟨as, rd⟩ := Dp.reads I p x u hp ru
    unfold fitR at hf
    simp only [Bool.and_eq_true, Bool.not_eq_true', decide_eq_true_eq] at hf
    obtain ⟨⟨⟨⟨h1, h2⟩, h3⟩, h4⟩, h5⟩ := hf
    have fin : ∀ h' u tk, (∀ b o, s.heap.get? b = some o → h'.get? b = some o) → EP X pins σ Q (.str p.shown u) { s with heap := h', toks := tk } := fun h' u tk kp => ⟨.str p.shown, H, I.kept kp, ⟨u, rfl⟩, q⟩
    cases rd with
    | none => exact PySem.P.repr_of_none (by have := fin s.heap s.toks (s.toks + 1) fun _ _ e => e; rw [PyData.shown_none] at this; exact this)
    | bool b => exact PySem.P.repr_of_bool (by have := fin s.heap s.toks (s.toks + 1) fun _ _ e => e; rw [PyData.shown_bool] at this; cases b <;> exact this)
    | int i t => exact PySem.P.repr_of_int (by simpa [PyData.showable] using h1) (by have := fin s.heap s.toks (s.toks + 1) fun _ _ e => e; rw [PyData.shown_int] at this; exact this)
    | str x t => exact PySem.P.repr_of_str (by have := fin s.heap s.toks (s.toks + 1) fun _ _ e => e; rw [PyData.shown_str] at this; exact this) (by rw [← PyData.shown_str]; exact h4)
    | list a b c d => exact repr_of_reads' (.list a b c d) h1 (PyData.noDict_hsm h2) gd (by omega) (fun _ _ e => e) fin h4
    | tuple a b c d => exact repr_of_reads' (.tuple a b c d) h1 (PyData.noDict_hsm h2) gd (by omega) (fun _ _ e => e) fin h4
    | dict => simp [PyData.hasDict] at h2
  · cases ru
    obtain ⟨_, ns, vs, kv, o, es, ep, ho, hd, he, _, hes, _⟩ := I.hok a _ ha
    have ev : vs = [] := by cases kv; rfl
    subst ev
    have ee : es.toList = [] := by
      cases z : es.toList with
      | nil => rfl
      | cons _ _ => rw [z] at hes; cases hes
    have rd : Reads s.heap (.ref a) (.dict []) (a :: [] ++ []) := .dict ho hd.1 he (by rw [ee]; exact .nil) (by rw [ee]; exact .nil)
    have hs : PyData.shown (.dict []) = Str.ofString "{}" := by rfl
    refine repr_of_reads' rd (by rfl) (fun _ hm => ?_) gd (by show X.A.units + (PyData.depth (.dict []) + 1) < cLine; rw [show PyData.depth (.dict []) = 1 by rfl]; omega) (fun _ _ e => e) (fun h' u tk kp => ⟨.str (Str.ofString "{}"), H, I.kept kp, ⟨u, by rw [hs]⟩, q⟩) (by rw [hs]; decide +kernel)
    have : sysModules = a := by simpa using hm
    rw [← this] at ns
    simp at ns
theorem call_repr {k : Nat} (hr : Room k X.A) : CallR X (.builtin "repr") (rRepr X.K) := by
  intro pins s σ H xs us Q I r h
  exact repr_at (by have := hr.un; omega) hr.gd I r h
/-! ### data that repr takes -/
theorem cpsOk_app {a b : Str} (h1 : cpsOk a = true) (h2 : cpsOk b = true) : cpsOk (a ++ b) = true := by
  unfold cpsOk at *
  show ((a.cps ++ b.cps).toList.all _) = true
  rw [Array.toList_append, List.all_append, h1, h2]
  rfl
theorem cpsOk_of (x : String) : cpsOk (x : Str) = true := by
  show cpsOk (Str.ofString x) = true
  rw [Str.ofString_eq_toList]
  unfold cpsOk
  rw [List.all_eq_true]
  intro c hc
  obtain ⟨d, _, rfl⟩ := List.mem_map.mp (by simpa using hc)
  have := d.valid
  refine decide_eq_true ?_
  rcases this with h | ⟨_, h⟩
  · exact Nat.lt_trans h (by decide)
  · exact h
theorem cpsOk_join {sep : Str} (hs : cpsOk sep = true) : ∀ ts : List Str, (∀ t ∈ ts, cpsOk t = true) → cpsOk (Str.join sep ts) = true
  | [], _ => rfl
  | [x], h => h x (List.mem_cons_self ..)
  | x :: y :: r, h => cpsOk_app (cpsOk_app (h x (List.mem_cons_self ..)) hs) (cpsOk_join hs (y :: r) fun t ht => h t (List.mem_cons_of_mem _ ht))
theorem repr_char_ok (q c : Nat) (hc : c < 1114112) : ∀ x ∈ Builtin.Str.reprChar q c, x < 1114112 := by
  have hx : ∀ (w : Nat) (x : Nat), x ∈ (List.replicate (w - ((Nat.toDigits 16 c).map Char.toNat).length) 48 ++ (Nat.toDigits 16 c).map Char.toNat) → x < 1114112 := by
    intro w x hx
    rcases List.mem_append.mp hx with h | h
    · rw [(List.mem_replicate.mp h).2]; decide
    · obtain ⟨d, _, rfl⟩ := List.mem_map.mp h
      rcases d.valid with h | ⟨_, h⟩
      · exact Nat.lt_trans h (by decide)
      · exact h
  intro x h
  unfold Builtin.Str.reprChar at h
  repeat' split at h
  all_goals first
    | (simp only [List.mem_cons, List.mem_nil_iff, or_false] at h; omega)
    | (rcases List.mem_append.mp h with h | h
       · simp only [List.mem_cons, List.mem_nil_iff, or_false] at h; omega
       · exact hx _ x h)
theorem fold_repr_ok (q : Nat) : ∀ (l : List Nat) (acc : Array Nat), (∀ c ∈ l, c < 1114112) → (∀ c ∈ acc.toList, c < 1114112) → ∀ c ∈ (l.foldl (fun out c => out ++ (Builtin.Str.reprChar q c).toArray) acc).toList, c < 1114112
  | [], acc, _, h => h
  | c :: r, acc, hl, h => by
    rw [List.foldl_cons]
    refine fold_repr_ok q r _ (fun d hd => hl d (List.mem_cons_of_mem _ hd)) fun d hd => ?_
    rw [Array.toList_append] at hd
    rcases List.mem_append.mp hd with z | z
    · exact h d z
    · exact repr_char_ok q c (hl c (List.mem_cons_self ..)) d (by simpa using z)
theorem cpsOk_repr {x : Str} (h : cpsOk x = true) : cpsOk (reprText x) = true := by
  have hq : reprQuote x < 1114112 := by unfold reprQuote; split <;> decide
  unfold cpsOk at *
  rw [List.all_eq_true] at *
  intro c hc
  unfold reprText at hc
  rw [Array.toList_push, ← Array.foldl_toList] at hc
  refine decide_eq_true ?_
  rcases List.mem_append.mp hc with z | z
  · exact fold_repr_ok _ _ _ (fun c hc => of_decide_eq_true (h c hc)) (fun c hc => by simp at hc; omega) c z
  · simp at z; omega
mutual
theorem cpsOk_shown : ∀ p : PyData, p.canLay0 = true → cpsOk p.shown = true
  | .none, _ => by rw [PyData.shown_none]; exact cpsOk_of _
  | .bool b, _ => by rw [PyData.shown_bool]; cases b <;> exact cpsOk_of _
  | .int i, _ => by rw [PyData.shown_int]; exact cpsOk_of _
  | .str x, h => by
    rw [PyData.shown_str]
    refine cpsOk_repr ?_
    have h' : PyData.strOk x = true := by simpa [PyData.canLay0] using h
    unfold cpsOk
    unfold PyData.strOk at h'
    rw [List.all_eq_true]
    rw [← Array.all_toList, List.all_eq_true] at h'
    intro c hc
    have := h' c hc
    simpa using this
  | .list xs, h => by
    rw [PyData.shown_list]
    exact cpsOk_app (cpsOk_app (cpsOk_of _) (cpsOk_join (cpsOk_of _) _ (cpsOk_showns xs (by simpa [PyData.canLay0] using h)))) (cpsOk_of _)
  | .tuple xs, h => by
    rw [PyData.shown_tuple]
    exact cpsOk_app (cpsOk_app (cpsOk_of _) (cpsOk_join (cpsOk_of _) _ (cpsOk_showns xs (by simpa [PyData.canLay0] using h)))) (cpsOk_of _)
  | .dict _, h => by simp [PyData.canLay0] at h
theorem cpsOk_showns : ∀ ps : List PyData, PyData.canLayAll0 ps = true → ∀ t ∈ PyData.shownAll ps, cpsOk t = true
  | [], _ => by simp [PyData.shownAll]
  | p :: ps, h => by
    have h' : p.canLay0 = true ∧ PyData.canLayAll0 ps = true := by simpa [PyData.canLayAll0] using h
    intro t ht
    rw [PyData.shownAll_cons] at ht
    rcases List.mem_cons.mp ht with rfl | ht
    · exact cpsOk_shown p h'.1
    · exact cpsOk_showns ps h'.2 t ht
end
mutual
def repB : Nat → D → Bool
  | _, .non => true
  | _, .bl _ => true
  | _, .int i => decide (i.natAbs < 10 ^ 12)
  | _, .str _ => true
  | 0, .tup _ => false
  | 0, .lst _ => false
  | n + 1, .tup ds => repsB n ds
  | n + 1, .lst ds => repsB n ds
  | _, _ => false
def repsB : Nat → List D → Bool
  | _, [] => true
  | n, d :: ds => repB n d && repsB n ds
end
mutual
def blk : D → Nat
  | .str x => x.length
  | .tup ds => blks ds
  | .lst ds => blks ds
  | _ => 0
def blks : List D → Nat
  | [] => 0
  | d :: ds => blk d + 1 + blks ds
end
structure RepP (n : Nat) (p : PyData) : Prop where
  lay : p.canLay0 = true
  dep : p.depth ≤ n
  short : p.intsShort 13 = true
  show' : p.showable = true
  nod : p.hasDict = false
structure RepPs (n : Nat) (ps : List PyData) : Prop where
  lay : PyData.canLayAll0 ps = true
  dep : PyData.depthAll ps ≤ n
  short : PyData.intsShortAll 13 ps = true
  show' : PyData.showableAll ps = true
  nod : PyData.hasDictAll ps = false
theorem log_small {i : Int} (h : i.natAbs < 10 ^ 12) : i.natAbs.log2 < 1920 := by
  by_cases h0 : i.natAbs = 0
  · rw [h0]; decide
  · have := (Nat.log2_lt h0 (k := 1920)).mpr (Nat.lt_trans h (by decide +kernel))
    exact this
mutual
theorem rep_py : ∀ (n : Nat) (d : D), repB n d = true → ∃ p, toPy d = some p ∧ RepP n p ∧ p.bulk = blk d
  | n, .non, _ => ⟨.none, by simp [toPy], ⟨by simp [PyData.canLay0], by simp [PyData.depth], by simp [PyData.intsShort], by simp [PyData.showable], by simp [PyData.hasDict]⟩, by simp [PyData.bulk, blk]⟩
  | n, .bl b, _ => ⟨.bool b, by simp [toPy], ⟨by simp [PyData.canLay0], by simp [PyData.depth], by simp [PyData.intsShort], by simp [PyData.showable], by simp [PyData.hasDict]⟩, by simp [PyData.bulk, blk]⟩
  | n, .int b, h => by
    have hb : b.natAbs < 10 ^ 12 := by simpa [repB] using h
    exact ⟨.int b, by simp [toPy], ⟨by simp [PyData.canLay0], by simp [PyData.depth], by simp only [PyData.intsShort]; exact decide_eq_true (PyData.shown_int_le hb), by simp only [PyData.showable]; exact decide_eq_true (log_small hb), by simp [PyData.hasDict]⟩, by simp [PyData.bulk, blk]⟩
  | n, .str b, _ => ⟨.str (toStr b), by simp [toPy], ⟨by simp [PyData.canLay0, strOk_toStr], by simp [PyData.depth], by simp [PyData.intsShort], by simp [PyData.showable], by simp [PyData.hasDict]⟩, by simp [PyData.bulk, blk, toStr]⟩
  | 0, .tup _, h => by simp [repB] at h
  | 0, .lst _, h => by simp [repB] at h
  | n + 1, .tup ds, h => by
    obtain ⟨ps, e, h1, h2⟩ := reps_py n ds (by simpa [repB] using h)
    exact ⟨.tuple ps, by simp [toPy, e], ⟨by simp [PyData.canLay0, h1.lay], by simp [PyData.depth]; exact h1.dep, by simp [PyData.intsShort, h1.short], by simp [PyData.showable, h1.show'], by simp [PyData.hasDict, h1.nod]⟩, by simp [PyData.bulk, blk, h2]⟩
  | n + 1, .lst ds, h => by
    obtain ⟨ps, e, h1, h2⟩ := reps_py n ds (by simpa [repB] using h)
    exact ⟨.list ps, by simp [toPy, e], ⟨by simp [PyData.canLay0, h1.lay], by simp [PyData.depth]; exact h1.dep, by simp [PyData.intsShort, h1.short], by simp [PyData.showable, h1.show'], by simp [PyData.hasDict, h1.nod]⟩, by simp [PyData.bulk, blk, h2]⟩
  | n, .ty _, h => by simp [repB] at h
  | n, .cls _, h => by simp [repB] at h
  | n, .obj _ _, h => by simp [repB] at h
  | n, .scr _, h => by simp [repB] at h
  | n, .exc _ _ _, h => by simp [repB] at h
  | n, .emp, h => by simp [repB] at h
  | n, .adr _, h => by simp [repB] at h
  | n, .fix _ _, h => by simp [repB] at h
  | n, .err _ _, h => by simp [repB] at h
theorem reps_py : ∀ (n : Nat) (ds : List D), repsB n ds = true → ∃ ps, toPys ds = some ps ∧ RepPs n ps ∧ PyData.bulkAll ps = blks ds
  | n, [], _ => ⟨[], by simp [toPys], ⟨by simp [PyData.canLayAll0], by simp [PyData.depthAll], by simp [PyData.intsShortAll], by simp [PyData.showableAll], by simp [PyData.hasDictAll]⟩, by simp [PyData.bulkAll, blks]⟩
  | n, d :: ds, h => by
    have h' : repB n d = true ∧ repsB n ds = true := by simpa [repsB] using h
    obtain ⟨p, e, h1, h2⟩ := rep_py n d h'.1
    obtain ⟨ps, e', h3, h4⟩ := reps_py n ds h'.2
    exact ⟨p :: ps, by simp [toPys, e, e'], ⟨by simp [PyData.canLayAll0, h1.lay, h3.lay], by have := h1.dep; have := h3.dep; simp [PyData.depthAll]; omega, by simp [PyData.intsShortAll, h1.short, h3.short], by simp [PyData.showableAll, h1.show', h3.show'], by simp [PyData.hasDictAll, h1.nod, h3.nod]⟩, by simp [PyData.bulkAll, blks, h2, h4]⟩
end
structure Rep (d : D) : Prop where
  ex : ∃ n, n ≤ 60 ∧ repB n d = true
  sm : blk d ≤ 2 ^ 20
@[simp] theorem gRepr_emp : gRepr [.emp] = some (.str (lit "{}"), false) := rfl
end Nu
namespace Nu
open PySem PySem.Spec PyProof.Rows L2
variable [WorldI]
section
variable {C : Cq} {Z Z' F F' H H' : Hp} {σ σ' : St} {ρ ρ' : Rho} {X : Cx}
/-! ## == of an object and of any value -/
/-! ## an object's truth, where its class tells none -/
structure NoTru (K : PySem.W.Frag) (c : Str) : Prop where
  bo : PySem.W.findIn K (.ref (He.ga K c)) "__bool__" = some none
  le : PySem.W.findIn K (.ref (He.ga K c)) "__len__" = some none
end
end Nu
namespace Nu
open PySem PySem.Spec PyProof.Rows L2
variable [WorldI]
section
variable {C : Cq} {Z Z' F F' H H' : Hp} {σ σ' : St} {ρ ρ' : Rho} {X : Cx}
/-! ## an object made by keywords alone -/
/-! ## a, b, c = x, y, z -/
/-! ## xs[i], y = a pair -/
def setPair (i n : Nat) (x : D) (d : D) (e : D) (ρ : Rho) : Option Rho := (setIx i x d ρ).bind (put1 n e)
def sAsgX (i n : Nat) (fi : Rho → R (D × Bool)) (f : Rho → R Opd) (ρ : Rho) : Ss := Rx (f ρ) fun o ρ1 => match o with
  | .val (.tup [d, e]) => if isLst ρ1[i]? = true then Rx (fi ρ1) fun b ρ2 => optS (setPair i n b.1 d e ρ2) fun ρ3 => .nx ρ3 else .err
  | _ => .err
end
def as3 : Option (List D) → Option (D × D × D)
  | some [d, e, f] => some (d, e, f)
  | _ => none
section
variable {ρ : Rho} {Q : Ss → Prop}
@[simp ↓] theorem w_par3 {i j l : Nat} {g : Rho → R (List Opd)} : wpS (sPar3 i j l g ρ) Q = wpR (g ρ) (ThX (fun os ρ1 => optS ((as3 (vals os)).bind fun p => ((put1 i p.1 ρ1).bind (put1 j p.2.1)).bind (put1 l p.2.2)) fun ρ2 => .nx ρ2) Q) := by
  rw [← wp_rx]; congr 1; unfold sPar3; congr 1; funext os ρ1
  cases vals os with
  | none => rfl
  | some ds => match ds with
    | [] => rfl
    | [_] => rfl
    | [_, _] => rfl
    | [d, e, f] =>
      simp only [as3, Option.bind_some]
      cases ((put1 i d ρ1).bind (put1 j e)).bind (put1 l f) <;> rfl
    | _ :: _ :: _ :: _ :: _ => rfl
@[simp] theorem as3_3 {a b c : D} : as3 (some [a, b, c]) = some (a, b, c) := rfl
@[simp ↓] theorem w_asgX {i n : Nat} {fi : Rho → R (D × Bool)} {f : Rho → R Opd} : wpS (sAsgX i n fi f ρ) Q = wpR (f ρ) (ThX (fun o ρ1 => match o with
  | .val (.tup [d, e]) => if isLst ρ1[i]? = true then Rx (fi ρ1) fun b ρ2 => optS (setPair i n b.1 d e ρ2) fun ρ3 => .nx ρ3 else .err
  | _ => .err) Q) := by
  rw [← wp_rx]; rfl
end
end Nu
namespace Nu
open PySem PySem.Spec PyProof.Rows L2
variable [WorldI]
section
variable {C : Cq} {Z Z' F F' H H' : Hp} {σ σ' : St} {ρ ρ' : Rho} {X : Cx} {K : PySem.W.Frag}
/-! ## zip of two lists, of two tuples -/
def zipD (xs ys : List D) : List D := List.zipWith (fun a b => D.tup [a, b]) xs ys
def zipO : List Opd → Option (List D)
  | [.val (.lst xs), .val (.lst ys)] => some (zipD xs ys)
  | [.val (.tup xs), .val (.tup ys)] => some (zipD xs ys)
  | _ => none
def sZip (f : Rho → R (List Opd)) (ρ : Rho) : R (List D) := (f ρ).bind fun os ρ1 => R.of (zipO os) ρ1
end
section
variable {ρ : Rho} {QL : R (List D) → Prop}
@[simp ↓] theorem w_zip {f : Rho → R (List Opd)} : wpR (sZip f ρ) QL = wpR (f ρ) (ThR (fun os ρ1 => R.of (zipO os) ρ1) QL) := wp_bind
@[simp] theorem zipO_l {xs ys : List D} : zipO [.val (.lst xs), .val (.lst ys)] = some (zipD xs ys) := rfl
@[simp] theorem zipO_t {xs ys : List D} : zipO [.val (.tup xs), .val (.tup ys)] = some (zipD xs ys) := rfl
end
end Nu
namespace Nu
open PySem PySem.Spec PyProof.Rows L2
variable [WorldI]
section
variable {C : Cq} {Z Z' F F' H H' : Hp} {σ σ' : St} {ρ ρ' : Rho} {X : Cx} {K : PySem.W.Frag}
/-! ## x or y, x a text -/
def asT : D × Bool → Option (List Cp)
  | (.str x, false) => if x.length ≤ sizeLine then some x else none
  | _ => none
def sOrS (f g : Rho → R (D × Bool)) (ρ : Rho) : R (D × Bool) := (f ρ).bind fun a ρ1 => optR (asT a) fun x => if x = [] then g ρ1 else .ok (.str x, false) ρ1
end
section
variable {ρ : Rho} {QE : R (D × Bool) → Prop}
@[simp ↓] theorem w_orS {f g : Rho → R (D × Bool)} : wpR (sOrS f g ρ) QE = wpR (f ρ) (ThR (fun a ρ1 => optR (asT a) fun x => if x = [] then g ρ1 else .ok (.str x, false) ρ1) QE) := wp_bind
end
end Nu
namespace Nu
open PySem PySem.Spec PyProof.Rows L2
variable [WorldI]
section
variable {C : Cq} {Z Z' F F' H H' : Hp} {σ σ' : St} {ρ ρ' : Rho} {X : Cx} {K : PySem.W.Frag}
/-! ## divmod -/
/-! ## a text in a text -/
def subAtL (z x : List Cp) (i : Nat) : Bool := decide ((z.drop i).take x.length = x)
def isSub (x z : List Cp) : Bool := (List.range (z.length + 1)).any fun i => subAtL z x i
def gIn2 : D → D → Option (D × Bool)
  | .str x, .str z => some (.bl (isSub x z), false)
  | _, _ => none
/-! ## startswith, endswith -/
def sSw (g : List Cp → List Cp → Bool) (f1 f2 : Rho → R Opd) (ρ : Rho) : R (D × Bool) := (f1 ρ).bind fun o1 ρ1 => optR (asS o1) fun s => (f2 ρ1).bind fun o2 ρ2 => optR (asS o2) fun t => .ok (.bl (g s t), false) ρ2
end
end Nu
namespace PySem.W
open PySem PySem.Calls PyProof.Rows Builtin
section
variable {prog : Program} {w : World} {A : Around} {E : Value → Shared → Prop} {s : Shared} {K : Frag} {x C L f : Addr} {h₀ : Heap} {m : Str → Option Value} {ox : Obj} {od : Option Obj}
end
end PySem.W
namespace Nu
open PySem PySem.Spec PyProof.Rows L2
variable [WorldI]
section
variable {C : Cq} {Z Z' F F' H H' : Hp} {σ σ' : St} {ρ ρ' : Rho} {X : Cx} {K : PySem.W.Frag}
/-! ## list(range(n)) -/
def sRgL1 (f : Rho → R (D × Bool)) (ρ : Rho) : R (D × Bool) := (f ρ).bind fun b ρ2 => R.of ((asI b.1).bind fun j => gRgL 0 j) ρ2
/-! ## an object's truth by its length -/
def sTruL (tab : Str → Option MI) (f : Rho → R Opd) (ρ : Rho) : R Bool := (f ρ).bind fun o ρ1 => optR (((peek ρ1 o).bind clsOf).bind tab) fun mi => (sRun 1 mi.tl mi.ms mi.m [] [toAv o] ρ1).bind fun a ρ2 => optR (smallI a) fun n => .ok (n != 0) ρ2
end
section
variable {ρ : Rho} {QE : R (D × Bool) → Prop} {QB : R Bool → Prop}
@[simp ↓] theorem w_rgL1 {f : Rho → R (D × Bool)} : wpR (sRgL1 f ρ) QE = wpR (f ρ) (ThR (fun b ρ2 => R.of ((asI b.1).bind fun j => gRgL 0 j) ρ2) QE) := wp_bind
@[simp ↓] theorem w_truL {tab : Str → Option MI} {f : Rho → R Opd} : wpR (sTruL tab f ρ) QB = wpR (f ρ) (ThR (fun o ρ1 => optR (((peek ρ1 o).bind clsOf).bind tab) fun mi => (sRun 1 mi.tl mi.ms mi.m [] [toAv o] ρ1).bind fun a ρ2 => optR (smallI a) fun n => .ok (n != 0) ρ2) QB) := wp_bind
@[simp ↓] theorem w_sw {g : List Cp → List Cp → Bool} {f1 f2 : Rho → R Opd} : wpR (sSw g f1 f2 ρ) QE = wpR (f1 ρ) (ThR (fun o1 ρ1 => optR (asS o1) fun s => (f2 ρ1).bind fun o2 ρ2 => optR (asS o2) fun t => .ok (.bl (g s t), false) ρ2) QE) := wp_bind
@[simp] theorem gIn2_s {x z : List Cp} : gIn2 (.str x) (.str z) = some (.bl (isSub x z), false) := rfl
end
end Nu
namespace Nu
open PySem PySem.Spec PyProof.Rows L2
variable [WorldI]
section
variable {C : Cq} {Z Z' F F' H H' : Hp} {σ σ' : St} {ρ ρ' : Rho} {X : Cx} {K : PySem.W.Frag}
/-! ## figures -/
def digC (n : Nat) : Cp := Fin.ofNat 1114112 (48 + n)
/-! ## f-strings -/
def fmtD : D → Option (List Cp)
  | .str z => if z.length ≤ sizeLine then some z else none
  | .int i => if 0 ≤ i ∧ i < 10 then some [digC i.toNat] else none
  | _ => none
def sFmt (f : Rho → R Opd) (ρ : Rho) : R (D × Bool) := (f ρ).bind fun o ρ1 => optR ((peek ρ1 o).bind fmtD) fun z => .ok (.str z, false) ρ1
def strB : D × Bool → Option (List Cp)
  | (.str z, _) => some z
  | _ => none
def sJs : List (Rho → R (D × Bool)) → List Cp → Rho → R (D × Bool)
  | [], acc, ρ => .ok (.str acc, false) ρ
  | f :: r, acc, ρ => (f ρ).bind fun a ρ1 => optR ((strB a).bind fun z => if acc.length + z.length ≤ sizeLine then some z else none) fun z => sJs r (acc ++ z) ρ1
/-! ## split by one sign -/
def splD (c : Cp) : List Cp → List (List Cp)
  | [] => [[]]
  | a :: x => if a = c then [] :: splD c x else match splD c x with
    | p :: ps => (a :: p) :: ps
    | [] => [[a]]
def sSpl (f1 f2 : Rho → R Opd) (ρ : Rho) : R (D × Bool) := (f1 ρ).bind fun o1 ρ1 => optR (asS o1) fun s => (f2 ρ1).bind fun o2 ρ2 => optR (asS o2) fun t => match t with
  | [c] => if s.length + 2 ≤ sizeLine ∧ c.val < 256 then .ok (.lst ((splD c s).map D.str), true) ρ2 else .err
  | _ => .err
/-! ## str of an object -/
def sStrO (tab : Str → Option MI) (f : Rho → R Opd) (ρ : Rho) : R (D × Bool) := (f ρ).bind fun o ρ1 => optR (((peek ρ1 o).bind clsOf).bind tab) fun mi => (sRun 1 mi.tl mi.ms mi.m [] [toAv o] ρ1).bind fun a ρ2 => optR (strB a) fun z => .ok (.str z, false) ρ2
end
section
variable {ρ : Rho} {QE : R (D × Bool) → Prop}
@[simp ↓] theorem w_fmt {f : Rho → R Opd} : wpR (sFmt f ρ) QE = wpR (f ρ) (ThR (fun o ρ1 => optR ((peek ρ1 o).bind fmtD) fun z => .ok (.str z, false) ρ1) QE) := wp_bind
@[simp ↓] theorem w_js0 {acc : List Cp} : wpR (sJs [] acc ρ) QE = wpR (.ok (.str acc, false) ρ) QE := rfl
@[simp ↓] theorem w_js1 {f : Rho → R (D × Bool)} {r : List (Rho → R (D × Bool))} {acc : List Cp} : wpR (sJs (f :: r) acc ρ) QE = wpR (f ρ) (ThR (fun a ρ1 => optR ((strB a).bind fun z => if acc.length + z.length ≤ sizeLine then some z else none) fun z => sJs r (acc ++ z) ρ1) QE) := wp_bind
@[simp ↓] theorem w_spl {f1 f2 : Rho → R Opd} : wpR (sSpl f1 f2 ρ) QE = wpR (f1 ρ) (ThR (fun o1 ρ1 => optR (asS o1) fun s => (f2 ρ1).bind fun o2 ρ2 => optR (asS o2) fun t => match t with
  | [c] => if s.length + 2 ≤ sizeLine ∧ c.val < 256 then .ok (.lst ((splD c s).map D.str), true) ρ2 else .err
  | _ => .err) QE) := wp_bind
@[simp ↓] theorem w_strO {tab : Str → Option MI} {f : Rho → R Opd} : wpR (sStrO tab f ρ) QE = wpR (f ρ) (ThR (fun o ρ1 => optR (((peek ρ1 o).bind clsOf).bind tab) fun mi => (sRun 1 mi.tl mi.ms mi.m [] [toAv o] ρ1).bind fun a ρ2 => optR (strB a) fun z => .ok (.str z, false) ρ2) QE) := wp_bind
@[simp] theorem strB_s {z : List Cp} {b : Bool} : strB (.str z, b) = some z := rfl
end
end Nu
namespace Nu
open PySem PySem.Spec PyProof.Rows L2
variable [WorldI]
section
variable {C : Cq} {Z Z' F F' H H' : Hp} {σ σ' : St} {ρ ρ' : Rho} {X : Cx} {K : PySem.W.Frag}
/-! ## try, whose body raises nothing -/
abbrev Cq.nox (C : Cq) : Cq := ⟨C.K, C.P, fun _ _ _ _ => False⟩
def sThru (f : Rho → Ss) (ρ : Rho) : Ss := match f ρ with
  | .exc _ _ _ => .err
  | r => r
/-! ## classmethods -/
structure ClM (K : PySem.W.Frag) (c m : Str) : Prop where
  rd : ClX.CRead K (He.ga K c) (.type "type")
  cm : ClX.CMet K (He.ga K c) (.type "type") m (He.ma K (He.ga K c) m) (cmA K c m)
  ci : ClX.CInst K (He.ga K c) m (He.ma K (He.ga K c) m) (cmA K c m)
def sCm (c : Str) (n : Nat) (tl : List (Nat ⊕ D)) (ms : List Bool) (m : Mir) (fa : Rho → R (List Av)) (ρ : Rho) : R (D × Bool) := (fa ρ).bind fun as ρ1 => sRun (n + 1) tl ms m [] (.val (.cls c) :: as) ρ1
section
variable {k : Nat} {c mn : Str} {n : Nat} {tl : List (Nat ⊕ D)} {ms : List Bool} {m : Mir} {e o : Expr} {es : List Expr} {kws : List Keyword} {fo : Rho → R Opd} {fa : Rho → R (List Av)} {fk : Rho → R (List Opd)} {p pos apos : Pos}
end
end
section
variable {ρ : Rho} {QE : R (D × Bool) → Prop}
@[simp ↓] theorem w_cm {c : Str} {n : Nat} {tl : List (Nat ⊕ D)} {ms : List Bool} {m : Mir} {fa : Rho → R (List Av)} : wpR (sCm c n tl ms m fa ρ) QE = wpR (fa ρ) (ThR (fun as ρ1 => sRun (n + 1) tl ms m [] (.val (.cls c) :: as) ρ1) QE) := wp_bind
def thruS : Ss → Ss
  | .exc _ _ _ => .err
  | r => r
theorem sThru_eq {f : Rho → Ss} : sThru f ρ = thruS (f ρ) := by
  unfold sThru thruS
  cases f ρ <;> rfl
def ThTy (Q : Ss → Prop) : Ss → Prop := fun r => Q (thruS r)
@[simp ↓] theorem w_thru {f : Rho → Ss} {QS : Ss → Prop} : wpS (sThru f ρ) QS = wpS (f ρ) (ThTy QS) := by rw [sThru_eq]; rfl
@[simp ↓] theorem tht_nx {QS : Ss → Prop} : wpS (.nx ρ) (ThTy QS) = wpS (.nx ρ) QS := (rfl)
@[simp ↓] theorem tht_ct {QS : Ss → Prop} : wpS (.ct ρ) (ThTy QS) = wpS (.ct ρ) QS := (rfl)
@[simp ↓] theorem tht_bk {QS : Ss → Prop} : wpS (.bk ρ) (ThTy QS) = wpS (.bk ρ) QS := (rfl)
@[simp ↓] theorem tht_rt {QS : Ss → Prop} {d : D} {fr : Bool} : wpS (.rt d fr ρ) (ThTy QS) = wpS (.rt d fr ρ) QS := (rfl)
end
end Nu
namespace Nu
open PySem PySem.Spec PyProof.Rows L2
variable [WorldI]
section
variable {C : Cq} {pins : List (Addr × Obj)} {s : Shared} {Z Z' F F' H H' : Hp} {σ σ' : St} {ρ ρ' : Rho} {X : Cx} {K : PySem.W.Frag}
/-! ## the built-in classes under which own exceptions stand: ValueError, LookupError, ArithmeticError -/
structure BaseT (nid : String) (tl : List Value) : Prop where
  ex : ∃ B ini, ExcBaseFacts B nid ini tl
  pass : ∀ self : Value, refuseLoop self "__setattr__" tl = pure ()
  ob : tl.contains (.type "object") = true
theorem base_V : BaseT "ValueError.__new__" (tailOf "ValueError") := ⟨⟨_, _, F.excBase_ValueError⟩, F.store_ValueError.passes, by decide +kernel⟩
theorem base_L : BaseT "LookupError.__new__" (tailOf "LookupError") := ⟨⟨_, _, F.excBase_LookupError⟩, F.store_LookupError.passes, by decide +kernel⟩
theorem base_A : BaseT "ArithmeticError.__new__" (tailOf "ArithmeticError") := ⟨⟨_, _, F.excBase_ArithmeticError⟩, F.store_ArithmeticError.passes, by decide +kernel⟩
theorem upTo_ind {tl : List Value} {P : List Value → Prop} (h0 : P tl) (h1 : ∀ c r, P r → P (.ref c :: r)) (l : List Value) (e : upTo tl l = true) : P l := by
  fun_induction upTo tl l with
  | case1 c r ih => exact h1 c r (ih e)
  | case2 l _ => rw [eq_of_beq e]; exact h0
theorem upTo_has {tl : List Value} (X : String) (l : List Value) : upTo tl l = true → l.contains (.type X) = tl.contains (.type X) :=
  upTo_ind (P := fun l => l.contains (.type X) = tl.contains (.type X)) rfl (fun c r h => by rw [List.contains_cons, h]; rfl) l
theorem upTo_pass {nid : String} {tl : List Value} (T : BaseT nid tl) (self : Value) (l : List Value) : upTo tl l = true → refuseLoop self "__setattr__" l = pure () :=
  upTo_ind (P := fun l => refuseLoop self "__setattr__" l = pure ()) (T.pass self) (fun c r h => by rw [refuseLoop_ref]; exact h) l
structure OexG (K : PySem.W.Frag) (C : Addr) : Prop where
  cls : ∃ nm q N bs bm sn sub ab col dd k0 k1 k2 k3 k5 nid tl, K.lookup C = some (excClassObj nm q C N bs bm true sn sub ab col dd k0 k1 k2 k3 k5 nid) ∧ upTo tl bm = true ∧ BaseT nid tl
  sa : PySem.W.findIn K (.ref C) "__setattr__" = some (some (.builtin "object.__setattr__"))
  exC : PySem.W.subIn K (.ref C) (.type "BaseException") = some true
  tyC : PySem.W.typeIn K (.ref C) = some (.type "type")
  kC : PySem.W.keepIn K (.ref C) = true
theorem OexG.clsB {C : Addr} (T : OexG K C) : ∃ nm q N bs bm sn sub ab col dd k0 k1 k2 k3 k5 nid tl, K.lookup C = some (excClassObj nm q C N bs bm true sn sub ab col dd k0 k1 k2 k3 k5 nid) ∧ upTo tl bm = true ∧ ∃ B ini, ExcBaseFacts B nid ini tl := by
  obtain ⟨nm, q, N, bs, bm, sn, sub, ab, col, dd, k0, k1, k2, k3, k5, nid, tl, h1, h2, h3⟩ := T.cls
  exact ⟨nm, q, N, bs, bm, sn, sub, ab, col, dd, k0, k1, k2, k3, k5, nid, tl, h1, h2, h3.ex⟩
section
open Builtin Builtin.ObjectAttr
variable {prog : Program} {w : World} {A : Around} {R : Result → Shared → Prop} {h0 : Heap} {gs : Array GenState} {dr : Drawn} {tk0 : Nat} {os0 : OsState}
theorem osa_first {nid : String} {tl : List Value} {nm : Str} {tk : Tok} {v : Value} {x C : Addr} {vs : Array Value} {cd : ClassData} (T : BaseT nid tl) (kin : K.In h0) (obj : h0.get? x = some { cls := .ref C, data := .fields vs })
    (cls : PySem.W.clsIn K C = some cd) (mro : upTo tl cd.mro = true) (dic : cd.hasDict = true) (own : PySem.W.findIn K (.ref C) nm = some none)
    (fin : ∀ hn tn dx, (∀ b o, b ≠ x → h0.get? b = some o → hn.get? b = some o) → h0.objs.size ≤ dx → dx ≠ x → hn.get? x = some { cls := .ref C, dict := some dx, data := .fields vs } →
      hn.Ns1 dx (fun y => if y = nm then some v else none) → R (.ok (.ret .none)) ⟨hn, gs, dr, tn, os0⟩) :
    codeAny (model prog w) A (.call (.builtin "object.__setattr__") ⟨[.ref x, .str nm tk, v], []⟩) R ⟨h0, gs, dr, tk0, os0⟩ := by
  have inst : PySem.W.InstAt h0 x { cls := .ref C, data := .fields vs } C none := ⟨obj, rfl, rfl, trivial⟩
  have obm : cd.mro.contains (.type "object") = true := (upTo_has "object" _ mro).trans T.ob
  have nem : ¬ (cd.mro.isEmpty = true) := fun z => by
    rw [List.isEmpty_iff.mp z] at obm
    cases obm
  have xn : x ≠ h0.objs.size := Nat.ne_of_lt (Heap.lt_size obj)
  have isObj : PySem.W.Looks (model prog w) h0 (isInstance (.ref x) (.type "object")) true :=
    inst.type.andThen (PySem.W.looks_mroIn kin (by unfold PySem.W.mroIn; rw [cls, Option.bind_some, if_neg nem, obm]))
  have lc : PySem.W.Looks (model prog w) h0 (classData C) cd := PySem.W.looks_clsIn kin cls
  have lm : PySem.W.Looks (model prog w) h0 (mroOf (.ref C)) cd.mro := lc.andThen .now
  have lt : PySem.W.Looks (model prog w) h0 (storeTaker? none) none := .now
  have st := F.store_object
  have ca := st.args (.ref x) (.str nm tk) v
  refine codeAny_call_builtin st.slot.plain st.entry (@PySem.W.check_slot (model prog w) _ _ ⟨h0, gs, dr, tk0, os0⟩
    "object.__setattr__" "object" "__setattr__" (.ref x) [.str nm tk, v] [] _ st.kind st.split isObj ca ?_)
  rw [PySem.W.osa_eq, refuse_eq]
  refine wpAny_bind (wpAny_bind (inst.type.at (wpAny_bind (lm.at ?_))))
  rw [upTo_pass T _ _ mro]
  refine wpAny_pure (wpAny_bind (inst.type.at (wpAny_bind ((PySem.W.looks_findIn kin own).at (wpAny_bind (lt.at ?_))))))
  show wpAny _ _ (storeInOwnDict (.ref x) (.ref C) (.str nm tk) nm v false) _ _ _
  obtain ⟨a1, a2, a3, a4, a5, hasD, a7, a8, a9, a10, a11⟩ := cd
  obtain rfl : hasD = true := dic
  unfold storeInOwnDict ownDictForStores
  repeat (first | with_reducible refine PySem.HandSPX.store_in_new ?_ ?_ | with_reducible refine wpAny_loadPart_at obj ?_ | with_reducible refine lc.at ?_ | wp_step)
  · exact ⟨_, #[], _, Eq.trans (Heap.get?_update_ne _ _ _ _ xn.symm) (Heap.get?_push_at rfl rfl), rfl,
      fun e z => absurd z (by simp), fun _ => rfl⟩
  · intro hn tn ns bt
    have x1 : (h0.push { cls := .type "dict", data := .dict #[] }).get? x = some { cls := .ref C, data := .fields vs } := Heap.get?_push_of_some _ obj
    refine fin hn tn h0.objs.size (fun b o nb eb => ?_) (Nat.le_refl _) xn.symm ?_ ns
    · rw [bt.2 b (Nat.ne_of_lt (Heap.lt_size eb)), Heap.get?_update_ne _ _ _ _ nb]
      exact Heap.get?_push_of_some _ eb
    · rw [bt.2 x xn]
      exact Heap.get?_update_self _ x1 rfl
end
theorem ost_first {a D : Addr} {f : Str} {y : V} {u : Value} {Q : Unit → Shared → Prop} {E : Value → Shared → Prop} {A : Around} (T : OexG X.K D) (I : Inv X pins σ H s) (e : H a = some (exo a D none)) (own : PySem.W.findIn X.K (.ref D) f = some none) (ry : RelV y u)
    (h : ∀ dx s', H dx = none → dx ≠ a → Inv X pins σ (upd (upd H dx (exd dx [(f, y)])) a (exo a D (some dx))) s' → Q () s') : wpAny (model X.prog X.w) A (setAttr (.ref a) f u) Q E s := by
  obtain ⟨nm, q, N, bs, bm, sn, sub, ab, col, dd, k0, k1, k2, k3, k5, nid, tl, hC, hm, hB⟩ := T.cls
  obtain ⟨cd, hcl, hmro, hdic⟩ : ∃ cd, PySem.W.clsIn X.K D = some cd ∧ cd.mro = .ref D :: bm ∧ cd.hasDict = true := by
    unfold PySem.W.clsIn
    rw [hC]
    exact ⟨_, rfl, rfl, rfl⟩
  obtain ⟨t1, ho⟩ := exo_at I.hok e
  obtain ⟨hp, g, d, t, os⟩ := s
  have nba : ∀ {b : Addr}, H b = none → b ≠ a := fun n z => by subst z; rw [e] at n; cases n
  refine PySem.W.set_plain I.kIn (ox := { cls := .ref D, dict := none, data := .fields #[.ref t1, .none, .none, .none, .bool false, .none] }) (od := none) ⟨ho, rfl, rfl, trivial⟩ T.sa ?_
  refine osa_first hB I.kIn ho hcl (by rw [hmro]; exact hm) hdic own fun h' tk' dx k dn dne hx hn => ?_
  have hnd : H dx = none := I.hok.fresh dn
  have old : ∀ {b : Addr} {o : Obj}, hp.get? b = some o → b ≠ dx := fun q => Nat.ne_of_lt (Nat.lt_of_lt_of_le (Heap.lt_size q) dn)
  have at2 : ∀ {b : Addr} {u : HO}, H b = some u → u ≠ exo a D none → upd (upd H dx (exd dx [(f, y)])) a (exo a D (some dx)) b = some u := fun {b u} q n => by
    rw [upd_ne (at_ne e q n.symm), upd_ne (ne_of_none q hnd), q]
  have un : Un X.fs [] H (upd (upd H dx (exd dx [(f, y)])) a (exo a D (some dx))) hp h' := by
    refine { keep := fun b o q n _ _ => k b o (nba n) q, slot := fun b o q n _ _ => ⟨o.slots, k b o (nba n) q⟩, free := fun b o q n _ => ?_, there := fun b o q _ => ?_, tups := fun b xs q => at2 q exo_tup.symm, frzs := fun b o v q => at2 q exo_frz.symm, tbls := fun b ps q => ⟨#[], ?_⟩ }
    · rw [upd_ne (nba n), upd_ne (old q), n]
    · by_cases hb : b = a
      · subst hb; exact ⟨_, hx⟩
      · exact ⟨o, k b o hb q⟩
    · rw [at2 q exo_tbl.symm, Array.append_empty]
  refine h dx _ hnd dne (I.un (t' := tk') un fun b o q => ?_)
  by_cases hb : b = a
  · subst hb
    rw [upd_same] at q
    obtain rfl := Option.some.inj q
    exact exo_ok hx
  rw [upd_ne hb] at q
  by_cases hd : b = dx
  · subst hd
    rw [upd_same] at q
    obtain rfl := Option.some.inj q
    exact exd_ok hn (relO_put (fs := []) ry fun _ => True.intro)
  rw [upd_ne hd] at q
  refine (I.hok b o q).stay (fun c v hc z => k c v (hc.elim (fun z => z ▸ hb) fun hc => at_ne e hc exo_own) z) (fun c hc => at2 hc exo_own.symm) fun c xs hc => at2 hc exo_tup.symm
def tFst (K : PySem.W.Frag) (f : Str) (to te : TE) : TS := fun D σ H => te σ H fun y H1 => to σ H1 fun x H2 => ∃ a C : Addr, x = .ref a ∧ OexG K C ∧ PySem.W.findIn K (.ref C) f = some none ∧
  H2 a = some (exo a C none) ∧ ∀ dx, H2 dx = none → dx ≠ a → D.nx σ (upd (upd H2 dx (exd dx [(f, y)])) a (exo a C (some dx)))
theorem ps_fst {o e : Expr} {to te : TE} {f : Str} {p' pos : Pos} (ho : PE X o to) (he : PE X e te) (hs : swapsWith e (some (.Attribute o f p')) pos.line X.env = pure false := by rfl) : PS X (.Assign [.Attribute o f p'] e pos) (tFst X.K f to te) := by
  refine ⟨fun pins s σ H D I h => plainObj_wpAny_Assign_Attribute (thn (he.run pins s σ H _ I h) fun v s1 ⟨y, H1, I1, r1, q1⟩ => thn (ho.run pins s1 σ H1 _ I1 q1) fun u s2 ⟨x, H2, I2, r2, a, C, ex, T, own, ea, q⟩ => ?_) hs⟩
  subst ex
  obtain rfl : u = Value.ref a := r2
  exact ost_first T I2 ea own r1 fun dx s' n ne J => ⟨σ, _, J, q dx n ne⟩
/-! ## own exceptions are made and raised -/
structure ExM (K : PySem.W.Frag) (c : Str) : Prop where
  T : OexG K (He.ga K c)
  iC : PySem.W.findIn K (.ref (He.ga K c)) "__init__" = some (some (.ref (He.ma K (He.ga K c) "__init__")))
  tI : PySem.W.typeIn K (.ref (He.ma K (He.ga K c) "__init__")) = some (.type "function")
theorem oexB_ok {c : Addr} (h : oexB K c = true) : ∃ nm q N bs bm sn sub ab col dd k0 k1 k2 k3 k5 nid tl, K.lookup c = some (excClassObj nm q c N bs bm true sn sub ab col dd k0 k1 k2 k3 k5 nid) ∧ upTo tl bm = true ∧ BaseT nid tl := by
  unfold oexB at h
  split at h
  · rename_i dd cd sl e
    split at h
    · rename_i c' bm k0 k1 k2 k3 n k5 em es
      obtain ⟨h1, h⟩ := He.ba h
      obtain ⟨h3, h⟩ := He.ba h
      obtain ⟨h4, h5⟩ := He.ba h
      have e1 := of_decide_eq_true h1
      subst e1
      obtain ⟨nm, bs, mro, N, q, hd, sn, sub, ab, col, del⟩ := cd
      dsimp only at em h3 h4
      subst em h4
      obtain rfl : del = false := by cases del <;> simp_all
      have e3 : sl = #[k0, k1, k2, k3, some (.builtin n), k5] := by
        have := congrArg List.toArray es
        simpa using this
      subst e3
      refine ⟨nm, q, N, bs, bm, sn, sub, ab, col, dd, k0, k1, k2, k3, k5, n, ?_⟩
      rcases Bool.or_eq_true_iff.mp h5 with h5 | h5
      · obtain ⟨h6, h7⟩ := He.ba h5
        obtain rfl := of_decide_eq_true h6
        exact ⟨_, e, h7, base_V⟩
      rcases Bool.or_eq_true_iff.mp h5 with h5 | h5
      · obtain ⟨h6, h7⟩ := He.ba h5
        obtain rfl := of_decide_eq_true h6
        exact ⟨_, e, h7, base_L⟩
      · obtain ⟨h6, h7⟩ := He.ba h5
        obtain rfl := of_decide_eq_true h6
        exact ⟨_, e, h7, base_A⟩
    · cases h
  · cases h
theorem fExM_ok {c : Str} (h : fExM c K = true) : ExM K c := by
  obtain ⟨h1, h⟩ := He.ba h
  obtain ⟨h2, h⟩ := He.ba h
  obtain ⟨h3, h⟩ := He.ba h
  obtain ⟨h4, h⟩ := He.ba h
  obtain ⟨h5, h⟩ := He.ba h
  obtain ⟨h6, h7⟩ := He.ba h
  exact ⟨⟨oexB_ok h1, He.eqO_ok h2, of_decide_eq_true h3, of_decide_eq_true h4, h5⟩, He.eqO_ok h6, of_decide_eq_true h7⟩
def spX (c : Addr) (fs : List Str) : Sp := fun vs H Q _ => ∃ a ys, vs = .ref a :: ys ∧ ys.length = fs.length ∧ H a = some (exo a c none) ∧ ∀ dx, H dx = none → dx ≠ a → Q .non (upd (upd H dx (exd dx (fs.zip ys).reverse)) a (exo a c (some dx)))
structure MkX (X : Cx) (k : Nat) (c : Str) (fs : List Str) : Prop where
  M : ExM X.K c
  ne : fs ≠ []
  ex : ∃ fd ps, FnOk X.prog X.w X.K X.mg X.base (L2N.CX X.prog X.w) k (He.ma X.K (He.ga X.K c) "__init__") fd ps (spX (He.ga X.K c) fs) ∧ Bd X.K fd ps (fs.length + 1) [] []
theorem init1 {Pg : Program} {w : World} {mg : Str → Option Value} {base : Heap} {c : Str} {qual f se v : Str} {params : Arguments} {scope : Scope} {fi : Addr} {fd : FuncData} {N : List Str} {j : Nat} {p1 p2 p3 p4 : Pos} (M : ExM K c)
    (Fd : FunD K "__init__" qual params [.Assign [.Attribute (.Name se p1) f p2] (.Name v p3) p4] scope [] [] fi fd) (S : FnScope N [se, v] scope) (h0 : N[0]? = some se) (h1 : N[1]? = some v) (v0 : Vis scope se) (v1 : Vis scope v) (hno : PySem.W.findIn K (.ref (He.ga K c)) f = some none)
    (hs : (se == ("__debug__" : Str)) = false := by decide) (hs2 : (se == ("__classdict__" : Str)) = false := by decide) (hv : (v == ("__debug__" : Str)) = false := by decide) (hv2 : (v == ("__classdict__" : Str)) = false := by decide) :
    FnOk Pg w K mg base (L2N.CX Pg w) (j + 1) fi fd [se, v] (spX (He.ga K c) [f]) := by
  refine FnOk.text Fd S (fun vs H Q E h => ?_) fun cd A outer s H vs Q E hr h => ⟨tFst K f (tVar 0) (tVar 1), pss_one (ps_fst (X := cxOf (L2N.CX Pg w) Pg w K mg base N qual scope fi cd A outer s H E) (pe_var h0 v0 hs hs2) (pe_var h1 v1 hv hv2)), ?_⟩
  · obtain ⟨a, ys, rfl, hl, _⟩ := h
    simp [hl]
  · obtain ⟨a, ys, rfl, hl, ha, q⟩ := h
    match ys, hl with
    | [y], _ =>
      refine ⟨y, rfl, .ref a, rfl, a, He.ga K c, rfl, M.T, hno, ha, fun dx n ne => q dx n ne⟩
def valsN (n : Nat) (os : List Opd) : Option (List D) := (vals os).bind fun ds => if ds.length = n ∧ ds.length ≤ 1000 then some ds else none
def sRaise (c : Str) (fs : List Str) (fa : Rho → R (List Opd)) (ρ : Rho) : Ss := Rx (fa ρ) fun os ρ1 => optS (valsN fs.length os) fun ds => .exc c (fs.zip ds).reverse ρ1
theorem relF_zip {F : Hp} : ∀ {fs : List Str} {vs : List V} {ds : List D}, Rels K F vs ds → RelF K F (fs.zip vs) (fs.zip ds)
  | [], _, _, _ => .nil
  | _ :: _, _, _, .nil => .nil
  | _ :: _, _, _, .cons h r => .cons h (relF_zip r)
theorem RelF.app {F : Hp} : ∀ {as bs : List (Str × V)} {cs ds : List (Str × D)}, RelF K F as cs → RelF K F bs ds → RelF K F (as ++ bs) (cs ++ ds)
  | _, _, _, _, .nil, s => s
  | _, _, _, _, .cons h r, s => .cons h (RelF.app r s)
theorem RelF.rev {F : Hp} : ∀ {as : List (Str × V)} {cs : List (Str × D)}, RelF K F as cs → RelF K F as.reverse cs.reverse
  | _, _, .nil => .nil
  | _, _, .cons h r => by rw [List.reverse_cons, List.reverse_cons]; exact (RelF.rev r).app (.cons h .nil)
end
section
variable {ρ : Rho} {QS : Ss → Prop}
@[simp ↓] theorem w_raise {c : Str} {fs : List Str} {fa : Rho → R (List Opd)} : wpS (sRaise c fs fa ρ) QS = wpR (fa ρ) (ThX (fun os ρ1 => optS (valsN fs.length os) fun ds => .exc c (fs.zip ds).reverse ρ1) QS) := wp_rx
@[simp] theorem valsN_1 {d : D} : valsN 1 [.val d] = some [d] := rfl
@[simp] theorem valsN_2 {d e : D} : valsN 2 [.val d, .val e] = some [d, e] := rfl
end
end Nu
namespace Nu
open PySem PySem.Spec PyProof.Rows L2
variable [WorldI]
section
variable {C : Cq} {Z Z' F F' H H' : Hp} {σ σ' : St} {ρ ρ' : Rho} {X : Cx} {K : PySem.W.Frag}
/-! ## defs that are called while an exception is handled -/
structure Xi where
  a : Addr
  dd : Addr
  c : Str
structure RoomX (k : Nat) (A : Around) : Prop where
  dp : A.depth + 3 * k + 5 < recursionLimit
  un : A.units + 16 * k + 200 < cLine
  gd : A.guards = some []
theorem RoomX.mono {j k : Nat} {A : Around} (r : RoomX k A) (h : j ≤ k) : RoomX j A := ⟨by have := r.dp; omega, by have := r.un; omega, r.gd⟩
theorem RoomX.deeper {k : Nat} {A : Around} (r : RoomX (k + 1) A) (env : Env) : RoomX k (A.deeper env) :=
  ⟨by have := r.dp; show A.depth + 1 + 3 * k + 5 < _; omega, by have := r.un; show A.units + 3 + 16 * k + 200 < _; omega, r.gd⟩
def HotE (X : Cx) (x : Xi) : Prop := ∃ oe, (x.a, oe) ∈ X.pn ∧ Zc (.ref (He.ga X.K x.c)) (some x.dd) oe ∧ ∃ vs, oe.data = .fields vs
structure FnX (P : Program) (w : World) (K : PySem.W.Frag) (mg : Str → Option Value) (base : Heap) (k : Nat) (f : Addr) (m : Xi → Mir) : Prop where
  run : ∀ (A : Around) (outer : List Env) (s : Shared) (H : Hp) (oe : Obj) (x : Xi) (ws : List (Str × V)) (fs : List (Str × D)) (Z F : Hp) (Q : VK), RoomX k A → L2H.Hot1 A (x.a, oe) → L2H.PinOk outer H s (x.a, oe) → Zc (.ref (He.ga K x.c)) (some x.dd) oe →
    Hps K Z F H → F x.dd = some (.xd ws) → RelF K F ws fs → Env0 P w K mg base A outer s H → MrW K Z F [] Q (fun _ _ _ => False) (m x [.exc x.a x.dd fs]) →
    codeAny (model P w) A (.call (.ref f) ⟨[.ref x.a], []⟩) (CR (L2N.CX P w) outer P w H s Q (fun _ _ _ => False)) s
/-! ### isinstance, attributes -/
structure ExIs (K : PySem.W.Frag) (c : Str) : Prop where
  cl : (PySem.W.clsIn K (He.ga K c)).isSome = true
  hg : PySem.W.findIn K (.ref (He.ga K c)) "__getattribute__" = some (some (.builtin "BaseException.__getattribute__"))
  hk : PySem.W.findIn K (.ref (He.ga K c)) "__getattr__" = some none
  hs : PySem.W.subIn K (.ref (He.ga K c)) (.type "BaseException") = some true
  hd : PySem.W.hasDictIn K (He.ga K c) = true
  ha : PySem.W.findIn K (.ref (He.ga K c)) "__class__" = some (some (.builtin "object.__class__"))
  hn : PySem.W.specialIn K (.builtin "object.__class__") "__get__" = some (some (.builtin "getset_descriptor.__get__"))
  ht : PySem.W.takesIn K (.builtin "object.__class__") = some true
  hm : PySem.W.mroIn K (He.ga K c) (.type "object") = some true
theorem fExIs_ok {c : Str} (h : fExIs c K = true) : ExIs K c := by
  obtain ⟨h1, h⟩ := He.ba h
  obtain ⟨h2, h⟩ := He.ba h
  obtain ⟨h3, h⟩ := He.ba h
  obtain ⟨h4, h⟩ := He.ba h
  obtain ⟨h5, h⟩ := He.ba h
  obtain ⟨h6, h⟩ := He.ba h
  obtain ⟨h7, h⟩ := He.ba h
  obtain ⟨h8, h9⟩ := He.ba h
  exact ⟨h1, He.eqO_ok h2, He.eqO_ok h3, of_decide_eq_true h4, h5, He.eqO_ok h6, He.eqO_ok h7, of_decide_eq_true h8, of_decide_eq_true h9⟩
structure IsXOk (K : PySem.W.Frag) (cs sup : List Str) (t : Tc) : Prop where
  each : ∀ c ∈ cs, ExIs K c ∧ PySem.W.kitOne K (.ref (He.ga K c)) (t.v K) = some (decide (c ∈ sup))
def xAt (x : Xi) (i : Nat) (ρ : Rho) : Option (List (Str × D)) := match ρ[i]? with
  | some (some (.exc a dd fs, .sh)) => if a = x.a ∧ dd = x.dd then some fs else none
  | _ => none
def sIsX (x : Xi) (cs sup : List Str) (i : Nat) (ρ : Rho) : R (D × Bool) := optR (xAt x i ρ) fun _ => if x.c ∈ cs then .ok (.bl (decide (x.c ∈ sup)), false) ρ else .err
structure FldX (K : PySem.W.Frag) (cs : List Str) (f : Str) : Prop where
  each : ∀ c ∈ cs, ExIs K c ∧ PySem.W.findIn K (.ref (He.ga K c)) f = some none
def sFldX (x : Xi) (cs : List Str) (f : Str) (i : Nat) (ρ : Rho) : R (D × Bool) := optR ((xAt x i ρ).bind fun fs => if x.c ∈ cs then fs.lookup f else none) fun d => .ok (d, false) ρ
end
section
variable {ρ : Rho} {QE : R (D × Bool) → Prop}
@[simp ↓] theorem w_isX {x : Xi} {cs sup : List Str} {i : Nat} : wpR (sIsX x cs sup i ρ) QE = wpO (xAt x i ρ) (ThO (fun _ => if x.c ∈ cs then .ok (.bl (decide (x.c ∈ sup)), false) ρ else .err) QE) := wp_optR
@[simp ↓] theorem w_fldX {x : Xi} {cs : List Str} {f : Str} {i : Nat} : wpR (sFldX x cs f i ρ) QE = wpO ((xAt x i ρ).bind fun fs => if x.c ∈ cs then fs.lookup f else none) (ThO (fun d => .ok (d, false) ρ) QE) := wp_optR
end
end Nu
namespace Nu
open PySem PySem.Spec PyProof.Rows L2
variable [WorldI]
section
variable {C : Cq} {Z Z' F F' H H' : Hp} {σ σ' : St} {ρ ρ' : Rho} {X : Cx} {K : PySem.W.Frag} {pins : List (Addr × Obj)} {s : Shared}
/-! ## a lambda is made -/
theorem SR.lam {P0 : Nat → Addr} {H1 : Hp} {P : Addr} {q : Str} (S : SR K P0 Z F σ ρ H) (hz : Z P = some (mark q)) (keep : ∀ b o, b ≠ P → H b = some o → H1 b = some o) (t : LamX.TabS H1 P q) : SR K P0 Z F σ ρ H1 where
  fh := fun b o e => keep b o (fun z => by subst z; rw [S.zf _ _ hz] at e; cases e) (S.fh b o e)
  zh := fun b o e => by
    by_cases hb : b = P
    · subst hb; rw [hz] at e; cases e; exact .inr ⟨q, rfl, t⟩
    · rcases S.zh b o e with ⟨n, h⟩ | ⟨q', rfl, ps, h1, h2, h3⟩
      · exact .inl ⟨n, keep b o hb h⟩
      · refine .inr ⟨q', rfl, ps, keep b _ hb h1, h2, fun pos cv hc => ?_⟩
        obtain ⟨c, e1, e2⟩ := h3 pos cv hc
        have hP := (S.zh P _ hz).tab
        obtain ⟨ps', hp, _⟩ := hP
        exact ⟨c, e1, keep c _ (fun z => by subst z; rw [hp] at e2; cases e2) e2⟩
  zf := S.zf
  zt := S.zt
  len := S.len
  sl := fun i d k e => by
    obtain ⟨v, hv, w⟩ := S.sl i d k e
    refine ⟨v, hv, ?_⟩
    cases k with
    | sh => exact w
    | ow => obtain ⟨a, r, w⟩ := w; exact ⟨a, r, w.nf, w.nz, w.at_.move (Evl.Ex.refl F) fun o z => keep a o (fun y => by subst y; rw [w.nz] at hz; cases hz) z⟩
    | pin => obtain ⟨a, r, w⟩ := w; exact ⟨a, r, w.nf, w.nz, w.at_.move (Evl.Ex.refl F) fun o z => keep a o (fun y => by subst y; rw [w.nz] at hz; cases hz) z⟩
  ap := S.ap
  pn := S.pn
/-! ## the lambda is called -/
abbrev leav (P : Program) (w : World) (A : Around) (env : Env) (outer : List Env) (H : Hp) (s : Shared) (E : XK) : Value → Shared → Prop := fun e s' => wpAny (model P w) (A.deeper env) (leaving env e) (fun _ s'' => L2N.CX P w outer H s E e s'') (fun e' s'' => L2N.CX P w outer H s E e' s'') s'
structure LamAt (X : Cx) (q : Str) (params : Arguments) (body : Expr) (scope : Scope) (s : Shared) (H : Hp) (f c' : Addr) : Prop where
  L : LamX.LamS X.env.scope scope
  eq : X.env.qual ++ ("<lambda>" : Str) = q
  at_ : ∃ pm ctv, s.heap.get? f = some (PySem.W.kla_obj "<lambda>" q params body scope (cloFrom X.env.cells scope.names []) pm c' ctv)
  new : H f = none
  nofr : f ∉ frs X.stack
  bind : ∀ (cl : List (Str × Addr)) (pm cv ctv : Value), bindArgs (PySem.W.kla_fn "<lambda>" q params body scope cl pm cv ctv) ⟨[], []⟩ = pure []
end
end Nu
namespace Nu
open PySem PySem.Spec PyProof.Rows L2
variable [WorldI]
section
variable {C : Cq} {Z Z' F F' H H' : Hp} {σ σ' : St} {ρ ρ' : Rho} {X : Cx} {K : PySem.W.Frag} {pins : List (Addr × Obj)} {s : Shared}
/-! ## try: .. except (A, B, C) as n: .., where all that the body raises is caught -/
end
end Nu
namespace Nu
open PySem PySem.Spec PyProof.Rows L2
variable [WorldI]
section
variable {C : Cq} {Z Z' F F' H H' : Hp} {σ σ' : St} {ρ ρ' : Rho} {X : Cx} {K : PySem.W.Frag} {pins : List (Addr × Obj)} {s : Shared}
/-! ## told(lambda: e): what e gives, or what the sort of its exception gives -/
def sTold (srt : Str → List (Str × D) → Option (D × Bool)) (f : Rho → R (D × Bool)) (ρ : Rho) : R (D × Bool) := match f ρ with
  | .ok a ρ1 => .ok (.lst [.str (lit "returned"), a.1], true) ρ1
  | .exc c fs ρ1 => optR (srt c fs) fun p => .ok p ρ1
  | .err => .err
end
section
variable {ρ : Rho} {QE : R (D × Bool) → Prop}
def ThTo (srt : Str → List (Str × D) → Option (D × Bool)) (Q : R (D × Bool) → Prop) : R (D × Bool) → Prop
  | .ok a ρ1 => Q (.ok (.lst [.str (lit "returned"), a.1], true) ρ1)
  | .exc c fs ρ1 => Q (optR (srt c fs) fun p => .ok p ρ1)
  | .err => Q .err
@[simp ↓] theorem w_told {srt : Str → List (Str × D) → Option (D × Bool)} {f : Rho → R (D × Bool)} : wpR (sTold srt f ρ) QE = wpR (f ρ) (ThTo srt QE) := by
  show Bx _ = Bx _
  congr 1
  unfold sTold ThTo
  cases f ρ <;> rfl
@[simp ↓] theorem tht_ok' {srt : Str → List (Str × D) → Option (D × Bool)} {a : D × Bool} : wpR (.ok a ρ) (ThTo srt QE) = wpR (.ok (.lst [.str (lit "returned"), a.1], true) ρ) QE := (rfl)
@[simp ↓] theorem tht_exc' {srt : Str → List (Str × D) → Option (D × Bool)} {c : Str} {fs : List (Str × D)} : wpR (.exc c fs ρ) (ThTo srt QE) = wpO (srt c fs) (ThO (fun p => .ok p ρ) QE) := wp_optR
def rpL (n : String) (v : D) : Option (D × Bool) := (gRepr [v]).bind fun p => match p with
  | (.str s, false) => some (.lst [.str (lit n), .str s], false)
  | _ => none
@[simp] theorem rpL_emp {n : String} : rpL n .emp = some (.lst [.str (lit n), .str (lit "{}")], false) := rfl
end
end Nu
namespace Nu
open PySem PySem.Spec PyProof.Rows L2
variable [WorldI]
section
variable {C : Cq} {Z Z' F F' H H' : Hp} {σ σ' : St} {ρ ρ' : Rho} {X : Cx} {K : PySem.W.Frag}
/-! ## truths counted -/
def blsOf : List D → Option (List Bool)
  | [] => some []
  | .bl b :: r => (blsOf r).map (b :: ·)
  | _ => none
def gCnt (a : D) (xs : List D) : Option (D × D) := match a, xs with
  | .lst ds, [.bl b] => (blsOf ds).map fun bs => (.int (bs.count b : Nat), .lst ds)
  | _, _ => none
def rCntB : V → List V → Hp → VK → Prop := fun x xs H Q => ∃ (p : Addr) (bs : List Bool) (b : Bool), x = .ref p ∧ xs = [.bl b] ∧ H p = some (.lst (bs.map V.bl)) ∧ Q (.int (bs.count b : Nat)) H
theorem bls_vals : ∀ {bs : List Bool} {us : List Value}, Vals (bs.map V.bl) us → us = bs.map Value.bool
  | [], _, .nil => rfl
  | b :: bs, _, .cons r t => by cases r; rw [bls_vals t]; rfl
theorem count_bools (b : Bool) : ∀ bs : List Bool, (bs.map Value.bool).countP (fun v => match v with | .bool c => c == b | _ => false) = bs.count b
  | [] => rfl
  | c :: bs => by rw [List.map_cons, List.countP_cons, List.count_cons, count_bools b bs]
theorem mt_cntB : MtM X "list.count" rCntB := by
  intro pins s σ H x xs v us Q I rx rxs h
  obtain ⟨p, bs, b, rfl, rfl, hp, q⟩ := h
  cases rx
  obtain ⟨u, rfl, ru⟩ := rxs.one
  cases ru
  obtain ⟨its, rv, ⟨⟨cls, dd, data, sl⟩, n, ho, hc, hdn, hd⟩, _⟩ := I.list (.of hp)
  simp only at hc hd
  subst hc hd
  have hi := bls_vals rv
  subst hi
  refine call_meets PySem.F.slot_list_count ⟨_, ho, rfl⟩ PySem.F.entry_list_count (PySem.F.args_list_count_2 _ _) (SeqAt.list_countAt p (bs.map Value.bool).toArray n dd sl (.bool b) (fun v => match v with | .bool c => c == b | _ => false)) ⟨ho, fun y hy => ?_, ?_⟩
  · obtain ⟨c, _, rfl⟩ := List.mem_map.mp (by simpa using hy : y ∈ bs.map Value.bool)
    exact SeqAt.EqAt.bool_bool c b
  · refine ⟨.int (bs.count b : Nat), H, I.tok _, ⟨s.toks, ?_⟩, q⟩
    rw [← count_bools b bs]
theorem rels_bls : ∀ {ds : List D} {bs : List Bool} {vs : List V}, Rels K F vs ds → blsOf ds = some bs → vs = bs.map V.bl
  | _, _, _, .nil, e => by cases e; rfl
  | _, _, _, .cons (d := d) (ds := ds) h r, e => by
    cases d with
    | bl b =>
      obtain ⟨bs', e1, e2⟩ := Option.map_eq_some_iff.mp (show (blsOf ds).map (b :: ·) = some _ from e)
      subst e2
      cases h
      rw [rels_bls r e1]
      rfl
    | _ => cases e
theorem m_cnt : OpM K rCntB gCnt := fun F H a xs dx ds res new Q l nf ow r e k => by
  match dx, ds, ow, r, e with
  | .lst ds, [.bl b], ow, r, e =>
    obtain ⟨v, rfl, rv⟩ := rels1 r
    cases rv
    obtain ⟨bs, e1, e2⟩ := Option.map_eq_some_iff.mp (show (blsOf ds).map (fun bs => (D.int (bs.count b : Nat), D.lst ds)) = some (res, new) from e)
    cases e2
    obtain ⟨vs, ha, rr⟩ := ow
    have ev := rels_bls rr e1
    have same : upd H a (.lst vs) = H := by
      funext x
      by_cases hx : x = a
      · subst hx; rw [upd_same, ha]
      · rw [upd_ne hx]
    have := k (.lst vs) (.int (bs.count b : Nat)) ⟨vs, upd_same, rr⟩ (.int _)
    rw [same] at this
    exact ⟨a, bs, b, rfl, rfl, by rw [← ev]; exact ha, this⟩
section
variable {i : Nat} {o e : Expr} {fa : Rho → R (List Opd)} {apos cpos : Pos}
theorem de_cnt (ho : PE X o (tVar i)) (ha : PA X [e] (tA C fa)) (hbase : attributeBase o "count" X.env (eval o X.env) = eval o X.env := by rfl)
    (hfew : ((backTo cpos (starEach [e] X.env)).all (fun x => !x.1) && (backToKw cpos (keywordEach [] X.env)).all (fun x => x.1.isSome)
      && decide ([e].length + ([] : List Keyword).length + (if ([] : List Keyword).isEmpty then 0 else 1) < 30)) = true := by rfl)
    (hline : (apos.endLine == cpos.line) = true := by rfl) (hs : starEach [e] X.env = (false, eval e X.env) :: starEach [] X.env := by rfl) (hplain : (backTo cpos (starEach [] X.env)).any (·.1) = false := by rfl) :
    PE X (.Call (.Attribute o "count" apos) [e] [] cpos) (tE C (sMut gCnt i fa)) := de_mut PySem.F.slot_list_count PySem.F.type_list_count mt_cntB m_cnt ho ha hbase hfew hline hs hplain
end
/-! ## {} -/
theorem de_emp {pos : Pos} : PE X (.Dict [] [] pos) (tE C (sC .emp)) := PE.imp pe_dnewK fun σ H Q ⟨Z, F, ρ, S, m⟩ => fun p np => by
  have gr : Grow F H (upd F p (.dK [])) (upd H p (.dK [])) := Grow.frz S.fh np
  exact m _ _ _ gr.ff (S.grow gr) (Rel.emp upd_same)
/-! ## the table of the def at hand -/
end
section
variable {ρ : Rho} {QE : R (D × Bool) → Prop}
@[simp] theorem gEq_b3 {a b c : Bool} : gEq (.lst [.bl a, .bl b, .bl c]) (.lst [.bl a, .bl b, .bl c]) = some (.bl true, false) := by cases a <;> cases b <;> cases c <;> kernel_rfl
@[simp] theorem atI_one {x : D} : L2.atI [x] 0 = some x := rfl
@[simp] theorem blsOf_nil : blsOf [] = some [] := rfl
@[simp] theorem blsOf_cons {b : Bool} {r : List D} : blsOf (.bl b :: r) = (blsOf r).map (b :: ·) := rfl
@[simp] theorem gCnt_ok {ds : List D} {b : Bool} : gCnt (.lst ds) [.bl b] = (blsOf ds).map fun bs => (.int (bs.count b : Nat), .lst ds) := rfl
end
end Nu
namespace Nu
open PySem PySem.Spec PyProof.Rows L2
variable [WorldI]
section
variable {C : Cq} {Z Z' F F' H H' : Hp} {σ σ' : St} {ρ ρ' : Rho} {X : Cx} {K : PySem.W.Frag}
/-! ## s.upper() -/
def upD (s : List Cp) : Option (List Cp) := if cpsOk (Txt.upper (toStr s)) = true ∧ s.length ≤ 5592405 then some (ofStr (Txt.upper (toStr s))) else none
def sUp (f1 : Rho → R Opd) (ρ : Rho) : R (D × Bool) := (f1 ρ).bind fun o1 ρ1 => optR ((asS o1).bind upD) fun y => .ok (.str y, false) ρ1
end
section
variable {ρ : Rho} {QE : R (D × Bool) → Prop}
@[simp ↓] theorem w_up {f1 : Rho → R Opd} : wpR (sUp f1 ρ) QE = wpR (f1 ρ) (ThR (fun o1 ρ1 => optR ((asS o1).bind upD) fun y => .ok (.str y, false) ρ1) QE) := wp_bind
end
end Nu
namespace Nu
open PySem PySem.Spec PyProof.Rows L2
variable [WorldI]
section
variable {C : Cq} {Z Z' F F' H H' : Hp} {σ σ' : St} {ρ ρ' : Rho} {X : Cx} {K : PySem.W.Frag}
/-! ## tuple(s), s a text -/
theorem vals_at : ∀ {xs : List V} {us : List Value}, xs.length = us.length → (∀ (i : Nat) x, xs[i]? = some x → ∃ u, us[i]? = some u ∧ RelV x u) → Vals xs us
  | [], [], _, _ => .nil
  | [], _ :: _, h, _ => by cases h
  | _ :: _, [], h, _ => by cases h
  | x :: xs, u :: us, h, g => by
    obtain ⟨u', e, r⟩ := g 0 x rfl
    have e' : u = u' := by simpa using e
    subst e'
    exact .cons r (vals_at (by simpa using h) fun i y hy => by simpa using g (i + 1) y (by simpa using hy))
end
end Nu
namespace Nu
open PySem PySem.Spec PyProof.Rows L2
variable [WorldI]
section
variable {C : Cq} {Z Z' F F' H H' : Hp} {σ σ' : St} {ρ ρ' : Rho} {X : Cx} {K : PySem.W.Frag}
section
variable {k : Nat} {c mn : Str} {n : Nat} {ks : List Str} {tl : List (Nat ⊕ D)} {ms : List Bool} {m : Mir} {e o : Expr} {es : List Expr} {kws : List Keyword} {fo : Rho → R Opd} {fa : Rho → R (List Av)} {fk : Rho → R (List Opd)} {p pos apos : Pos}
def sCmI (c mn : Str) (n : Nat) (tl : List (Nat ⊕ D)) (ms : List Bool) (m : Mir) (fo : Rho → R Opd) (fa : Rho → R (List Av)) (ρ : Rho) : R (D × Bool) := (fo ρ).bind fun o ρ1 => match peek ρ1 o with
  | some (.obj c' fs) => if c' = c ∧ fs.lookup mn = none then sCm c n tl ms m fa ρ1 else .err
  | _ => .err
end
end
section
variable {ρ : Rho} {QE : R (D × Bool) → Prop}
def cmSel (c mn : Str) : D → Option Unit
  | .obj c' fs => if c' = c ∧ fs.lookup mn = none then some () else none
  | _ => none
@[simp ↓] theorem w_cmI {c mn : Str} {n : Nat} {tl : List (Nat ⊕ D)} {ms : List Bool} {m : Mir} {fo : Rho → R Opd} {fa : Rho → R (List Av)} : wpR (sCmI c mn n tl ms m fo fa ρ) QE = wpR (fo ρ) (ThR (fun o ρ1 => optR ((peek ρ1 o).bind (cmSel c mn)) fun _ => sCm c n tl ms m fa ρ1) QE) := by
  rw [← wp_bind]
  congr 1
  unfold sCmI
  congr 1
  funext o ρ1
  cases peek ρ1 o with
  | none => rfl
  | some d =>
    cases d with
    | obj c' fs =>
      show (if c' = c ∧ fs.lookup mn = none then _ else _) = optR (if c' = c ∧ fs.lookup mn = none then some () else none) _
      split <;> rfl
    | _ => rfl
end
end Nu
namespace Nu
open PySem PySem.Spec PyProof.Rows L2
variable [WorldI]
section
variable {C : Cq} {Z Z' F F' H H' : Hp} {σ σ' : St} {ρ ρ' : Rho} {X : Cx} {K : PySem.W.Frag}
/-! ## x or y, x a text or None -/
def asE : D × Bool → Option (List Cp)
  | (.str x, false) => if x.length ≤ sizeLine then some x else none
  | (.non, false) => some []
  | _ => none
def sOrE (f g : Rho → R (D × Bool)) (ρ : Rho) : R (D × Bool) := (f ρ).bind fun a ρ1 => optR (asE a) fun x => if x = [] then g ρ1 else .ok (.str x, false) ρ1
end
section
variable {ρ : Rho} {QE : R (D × Bool) → Prop}
@[simp ↓] theorem w_orE {f g : Rho → R (D × Bool)} : wpR (sOrE f g ρ) QE = wpR (f ρ) (ThR (fun a ρ1 => optR (asE a) fun x => if x = [] then g ρ1 else .ok (.str x, false) ρ1) QE) := wp_bind
@[simp] theorem asE_n : asE (.non, false) = some [] := rfl
end
end Nu
namespace Nu
open PySem PySem.Spec PyProof.Rows L2
variable [WorldI]
section
variable {C : Cq} {Z Z' F F' H H' : Hp} {σ σ' : St} {ρ ρ' : Rho} {X : Cx} {K : PySem.W.Frag}
/-! ## o[i] by an own __getitem__ -/
def sGetO (tab : Str → Option MI) (f1 f2 : Rho → R Opd) (ρ : Rho) : R (D × Bool) :=
  (f1 ρ).bind fun o1 ρ1 => (f2 ρ1).bind fun o2 ρ2 => optR (((peek ρ2 o1).bind clsOf).bind tab) fun mi => sRun 2 mi.tl mi.ms mi.m [] [toAv o1, toAv o2] ρ2
end
section
variable {ρ : Rho} {QE : R (D × Bool) → Prop}
@[simp ↓] theorem w_getO {tab : Str → Option MI} {f1 f2 : Rho → R Opd} : wpR (sGetO tab f1 f2 ρ) QE = wpR (f1 ρ) (ThR (fun o1 ρ1 => (f2 ρ1).bind fun o2 ρ2 => optR (((peek ρ2 o1).bind clsOf).bind tab) fun mi => sRun 2 mi.tl mi.ms mi.m [] [toAv o1, toAv o2] ρ2) QE) := wp_bind
end
end Nu
namespace Nu
open PySem PySem.Spec PyProof.Rows L2
variable [WorldI]
section
variable {C : Cq} {Z Z' F F' H H' : Hp} {σ σ' : St} {ρ ρ' : Rho} {X : Cx} {K : PySem.W.Frag}
/-! ## cls(e, ..), cls a name that holds a class -/
def isCls (c : Str) : Option (Option (D × Kd)) → Bool
  | some (some (.cls c', .sh)) => decide (c' = c)
  | _ => false
def sMkL (i : Nat) (c : Str) (n : Nat) (tl : List (Nat ⊕ D)) (ms : List Bool) (m : Mir) (fa : Rho → R (List Av)) (ρ : Rho) : R (D × Bool) := if isCls c ρ[i]? = true then sMkP c n tl ms m fa ρ else .err
end
section
variable {ρ : Rho} {QE : R (D × Bool) → Prop}
@[simp ↓] theorem w_mkL {i n : Nat} {c : Str} {tl : List (Nat ⊕ D)} {ms : List Bool} {m : Mir} {fa : Rho → R (List Av)} : wpR (sMkL i c n tl ms m fa ρ) QE = if isCls c ρ[i]? = true then wpR (sMkP c n tl ms m fa ρ) QE else wpR .err QE := by
  unfold sMkL
  split <;> rfl
end
end Nu
namespace NuQ
open PySem PySem.SeqAt
open AutoSeq1 (wpAny_loadPart')
open MeetsSeq MeetsSeq2 MeetsSeq3 SeqRoads2
open GQ
section
variable {prog : Program} {w : World} {A : Around} {R : Result → Shared → Prop}
end
section
variable {prog : Program} {w : World} {A : Around} {E : Value → Shared → Prop} {s : Shared}
end
end NuQ
namespace Nu
open PySem PySem.Spec PyProof.Rows L2
variable [WorldI]
section
variable {C : Cq} {Z Z' F F' H H' : Hp} {σ σ' : St} {ρ ρ' : Rho} {X : Cx} {K : PySem.W.Frag}
/-! ## list != list, of objects that are equal one by one -/
def isTrueM : Mr → Bool
  | .ok (.bl true) false [] => true
  | _ => false
def eqT (tab : Str → Option MI) : D → D → Bool
  | .obj c fs, .obj c' fs' => (match tab c with
    | some mi => decide (c' = c) && (mi.tl.isEmpty && (mi.ms == [false, false] && isTrueM (mi.m [.obj c fs, .obj c' fs'])))
    | none => false)
  | _, _ => false
def eqTs (tab : Str → Option MI) : List D → List D → Bool
  | [], [] => true
  | a :: r, b :: t => eqT tab a b && eqTs tab r t
  | _, _ => false
def lstOf : D → Option (List D)
  | .lst ds => some ds
  | _ => none
def selNe (tab : Str → Option MI) (a b : Option D) : Option Unit := (a.bind lstOf).bind fun xs => (b.bind lstOf).bind fun ys => if eqTs tab xs ys = true then some () else none
def sNeL (tab : Str → Option MI) (f1 f2 : Rho → R Opd) (ρ : Rho) : R (D × Bool) :=
  (f1 ρ).bind fun o1 ρ1 => (f2 ρ1).bind fun o2 ρ2 => optR (selNe tab (peek ρ2 o1) (peek ρ2 o2)) fun _ => .ok (.bl false, false) ρ2
end
section
variable {ρ : Rho} {QE : R (D × Bool) → Prop}
@[simp ↓] theorem w_neL {tab : Str → Option MI} {f1 f2 : Rho → R Opd} : wpR (sNeL tab f1 f2 ρ) QE = wpR (f1 ρ) (ThR (fun o1 ρ1 => (f2 ρ1).bind fun o2 ρ2 => optR (selNe tab (peek ρ2 o1) (peek ρ2 o2)) fun _ => .ok (.bl false, false) ρ2) QE) := wp_bind
end
end Nu
namespace PySem.W
open PySem PySem.Calls PyProof.Rows Builtin
section
variable {prog : Program} {w : World} {A : Around} {E : Value → Shared → Prop} {s : Shared}
end
end PySem.W
namespace Nu
open PySem PySem.Spec PyProof.Rows L2
variable [WorldI]
section
variable {C : Cq} {Z Z' F F' H H' : Hp} {σ σ' : St} {ρ ρ' : Rho} {X : Cx} {K : PySem.W.Frag}
/-! ## bool of an object with a length -/
def sBoolO (tab : Str → Option MI) (f : Rho → R Opd) (ρ : Rho) : R (D × Bool) := (f ρ).bind fun o ρ1 => optR (((peek ρ1 o).bind clsOf).bind tab) fun mi => (sRun 1 mi.tl mi.ms mi.m [] [toAv o] ρ1).bind fun a ρ2 => optR (smallI a) fun n => .ok (.bl (n != 0), false) ρ2
/-! ## o.m(k = v), m a classmethod of o's class -/
section
variable {k : Nat} {c mn : Str} {n : Nat} {ks : List Str} {tl : List (Nat ⊕ D)} {ms : List Bool} {m : Mir} {e o : Expr} {es : List Expr} {kws : List Keyword} {fo : Rho → R Opd} {fa : Rho → R (List Av)} {fk : Rho → R (List Opd)} {p pos apos : Pos}
def sCmIK (c mn : Str) (j : Nat) (tl : List (Nat ⊕ D)) (ms : List Bool) (m : Mir) (fo : Rho → R Opd) (fk : Rho → R (List Opd)) (ρ : Rho) : R (D × Bool) := (fo ρ).bind fun o ρ1 => optR ((peek ρ1 o).bind (cmSel c mn)) fun _ => sKw 1 j tl ms m fk [.val (.cls c)] ρ1
end
end
section
variable {ρ : Rho} {QE : R (D × Bool) → Prop}
@[simp ↓] theorem w_boolO {tab : Str → Option MI} {f : Rho → R Opd} : wpR (sBoolO tab f ρ) QE = wpR (f ρ) (ThR (fun o ρ1 => optR (((peek ρ1 o).bind clsOf).bind tab) fun mi => (sRun 1 mi.tl mi.ms mi.m [] [toAv o] ρ1).bind fun a ρ2 => optR (smallI a) fun n => .ok (.bl (n != 0), false) ρ2) QE) := wp_bind
@[simp ↓] theorem w_cmIK {c mn : Str} {j : Nat} {tl : List (Nat ⊕ D)} {ms : List Bool} {m : Mir} {fo : Rho → R Opd} {fk : Rho → R (List Opd)} : wpR (sCmIK c mn j tl ms m fo fk ρ) QE = wpR (fo ρ) (ThR (fun o ρ1 => optR ((peek ρ1 o).bind (cmSel c mn)) fun _ => sKw 1 j tl ms m fk [.val (.cls c)] ρ1) QE) := wp_bind
end
end Nu
namespace Nu
open PySem PySem.Spec PyProof.Rows L2
variable [WorldI]
/-! ## keys -/
mutual
inductive KeyV (K : PySem.W.Frag) (H : Hp) : V → NestedKey → Prop
  | non : KeyV K H .non .none
  | bl (b : Bool) : KeyV K H (.bl b) (.num (if b = true then 1 else 0))
  | int (i : Int) : KeyV K H (.int i) (.num i)
  | str (x : Str) : KeyV K H (.str x) (.text x)
  | tup {a : Addr} {vs : List V} {ks : List NestedKey} : SqT K H a vs → KeyVs K H vs ks → KeyV K H (.ref a) (.tup ks)
inductive KeyVs (K : PySem.W.Frag) (H : Hp) : List V → List NestedKey → Prop
  | nil : KeyVs K H [] []
  | cons {v : V} {vs : List V} {k : NestedKey} {ks : List NestedKey} : KeyV K H v k → KeyVs K H vs ks → KeyVs K H (v :: vs) (k :: ks)
end
section
variable {X : Cx} {pins : List (Addr × Obj)} {σ : St} {F H : Hp} {s : Shared} {K : PySem.W.Frag}
mutual
theorem KeyV.is (I : Inv X pins σ H s) : ∀ {v : V} {k : NestedKey} {u : Value}, KeyV X.K H v k → RelV v u → NestedIs s.heap k u
  | _, _, _, .non, r => by cases r; exact .none
  | _, _, _, .bl b, r => by cases r; exact .bool rfl
  | _, _, _, .int i, r => by obtain ⟨t, rfl⟩ := r; exact .int i t
  | _, _, _, .str x, r => by obtain ⟨t, rfl⟩ := r; exact .text x t
  | _, _, _, .tup h ks, r => by
    cases r
    obtain ⟨its, rv, ⟨o, ho, hc, n, hd⟩, _⟩ := I.tuple h
    exact .tup ho hc hd (by simpa using KeyVs.are I ks rv)
theorem KeyVs.are (I : Inv X pins σ H s) : ∀ {vs : List V} {ks : List NestedKey} {us : List Value}, KeyVs X.K H vs ks → Vals vs us → NestedAll s.heap ks us
  | _, _, _, .nil, r => by cases r; exact .nil
  | _, _, _, .cons h t, r => by
    cases r with
    | cons r1 r2 => exact .cons (KeyV.is I h r1) (KeyVs.are I t r2)
end
mutual
theorem Rel.key (l : Le F H) : ∀ {v : V} {d : D} {k : NestedKey}, Rel K F v d → keyOf d = some k → KeyV K H v k
  | _, _, _, .non, e => by unfold keyOf at e; cases e; exact .non
  | _, _, _, .bl b, e => by unfold keyOf at e; cases e; exact .bl b
  | _, _, _, .int b, e => by unfold keyOf at e; cases e; exact .int b
  | _, _, _, .str b, e => by unfold keyOf at e; cases e; exact .str _
  | _, _, _, .ty _, e => by unfold keyOf at e; cases e
  | _, _, _, .cls _, e => by unfold keyOf at e; cases e
  | _, _, _, .tup h r, e => by
    unfold keyOf at e
    obtain ⟨ks, e1, e2⟩ := Option.map_eq_some_iff.mp e
    subst e2
    exact .tup (sqT_h l h) (Rels.keys l r e1)
  | _, _, _, .lst _ _, e => by unfold keyOf at e; cases e
  | _, _, _, .scr _ _, e => by unfold keyOf at e; cases e
  | _, _, _, .obj _ _, e => by unfold keyOf at e; cases e
  | _, _, _, .exc _ _, e => by unfold keyOf at e; cases e
  | _, _, _, .emp _, e => by unfold keyOf at e; cases e
  | _, _, _, .adr, e => by unfold keyOf at e; cases e
  | _, _, _, .fix _, e => by unfold keyOf at e; cases e
  | _, _, _, .err _ _ _, e => by unfold keyOf at e; cases e
  | _, _, _, .err0 _, e => by unfold keyOf at e; cases e
  | _, _, _, .dic _ _ _ _, e => by unfold keyOf at e; cases e
theorem Rels.keys (l : Le F H) : ∀ {vs : List V} {ds : List D} {ks : List NestedKey}, Rels K F vs ds → keysOf ds = some ks → KeyVs K H vs ks
  | _, _, _, .nil, e => by unfold keysOf at e; cases e; exact .nil
  | _, _, _, .cons h r, e => by
    unfold keysOf at e
    obtain ⟨k, e1, e2⟩ := Option.bind_eq_some_iff.mp e
    obtain ⟨ks, e3, e4⟩ := Option.map_eq_some_iff.mp e2
    subst e4
    exact .cons (Rel.key l h e1) (Rels.keys l r e3)
end
theorem key8_ok {d : D} {k : NestedKey} (h : key8 d = some k) : keyOf d = some k ∧ k.depth ≤ 8 := by
  unfold key8 at h
  obtain ⟨k', e1, e2⟩ := Option.bind_eq_some_iff.mp h
  split at e2
  · rename_i hd; cases e2; exact ⟨e1, hd⟩
  · cases e2
theorem Rl.key {v : V} {d : D} {k : NestedKey} (l : Le F H) (h : Rl K F H v d) (e : key8 d = some k) : KeyV K H v k ∧ k.depth ≤ 8 := by
  obtain ⟨e1, e2⟩ := key8_ok e
  rcases h with h | ⟨a, rfl, w⟩
  · exact ⟨h.key l e1, e2⟩
  · cases d with
    | lst ds => unfold keyOf at e1; cases e1
    | obj c fs => unfold keyOf at e1; cases e1
    | dic es => unfold keyOf at e1; cases e1
    | _ => exact w.elim
/-! ## entries -/
def findD : List (D × D) → NestedKey → Option D
  | [], _ => none
  | p :: r, k => if key8 p.1 = some k then some p.2 else findD r k
def putE (es : List (D × D)) (dk : D) (k : NestedKey) (dv : D) : List (D × D) := if (findD es k).isSome then es.map (fun p => if key8 p.1 = some k then (p.1, dv) else p) else es ++ [(dk, dv)]
theorem RelD.find {L : Ents} {es : List (D × D)} (r : RelD K F L es) (k : NestedKey) : (findD es k = none → NuD.atK L k = none) ∧ ∀ dv, findD es k = some dv → ∃ x z, NuD.atK L k = some x ∧ RelV z x ∧ Rel K F z dv := by
  induction L generalizing es with
  | nil => cases r; exact ⟨fun _ => rfl, fun _ e => by cases e⟩
  | cons p L ih =>
    cases r with
    | cons hk hu hv hz hd r =>
      rename_i k' u x v z dk dv' es
      obtain ⟨i1, i2⟩ := ih r
      by_cases e : k' = k
      · subst e
        have e1 : findD ((dk, dv') :: es) k' = some dv' := by simp [findD, hk]
        have e2 : NuD.atK ((k', u, x) :: L) k' = some x := by simp [NuD.atK]
        rw [e1, e2]
        exact ⟨fun h => (by cases h), fun d h => (by cases h; exact ⟨_, _, rfl, hz, hd⟩)⟩
      · have e1 : findD ((dk, dv') :: es) k = findD es k := by simp [findD, hk, e]
        have e2 : NuD.atK ((k', u, x) :: L) k = NuD.atK L k := by simp [NuD.atK, e]
        rw [e1, e2]
        exact ⟨i1, i2⟩
theorem RelD.some_iff {L : Ents} {es : List (D × D)} (r : RelD K F L es) (k : NestedKey) : (NuD.atK L k).isSome = (findD es k).isSome := by
  obtain ⟨h1, h2⟩ := r.find k
  cases e : findD es k with
  | none => rw [h1 e]; rfl
  | some dv => obtain ⟨x, z, e2, _⟩ := h2 dv e; rw [e2]; rfl
theorem RelD.length {L : Ents} {es : List (D × D)} (r : RelD K F L es) : L.length = es.length := by
  induction L generalizing es with
  | nil => cases r; rfl
  | cons p L ih => cases r with | cons _ _ _ _ _ r => rw [List.length_cons, List.length_cons, ih r]
theorem RelD.append {L M : Ents} {es fs : List (D × D)} (r : RelD K F L es) (r' : RelD K F M fs) : RelD K F (L ++ M) (es ++ fs) := by
  induction L generalizing es with
  | nil => cases r; exact r'
  | cons p L ih => cases r with | cons a b c d e r => exact .cons a b c d e (ih r)
theorem RelD.over {L : Ents} {es : List (D × D)} (r : RelD K F L es) {k : NestedKey} {x : Value} {z : V} {dv : D} (hz : RelV z x) (hd : Rel K F z dv) :
    RelD K F (L.map fun y => if y.1 = k then (y.1, y.2.1, x) else y) (es.map fun p => if key8 p.1 = some k then (p.1, dv) else p) := by
  induction L generalizing es with
  | nil => cases r; exact .nil
  | cons p L ih =>
    cases r with
    | cons a b c d e r =>
      rename_i k' u x' v z' dk dv' es
      by_cases h : k' = k
      · subst h
        rw [List.map_cons, List.map_cons, if_pos rfl, if_pos a]
        exact .cons a b c hz hd (ih r)
      · rw [List.map_cons, List.map_cons, if_neg h, if_neg (by rw [a]; simpa using h)]
        exact .cons a b c d e (ih r)
theorem RelD.put {L : Ents} {es : List (D × D)} (r : RelD K F L es) {dk dv : D} {k : NestedKey} {u x : Value} {v z : V} (hk : key8 dk = some k) (hu : RelV v u) (hv : Rel K F v dk) (hz : RelV z x) (hd : Rel K F z dv) : RelD K F (NuD.setK L k u x) (putE es dk k dv) := by
  unfold NuD.setK putE
  rw [r.some_iff k]
  split
  · exact r.over hz hd
  · exact r.append (.cons hk hu hv hz hd .nil)
theorem RelD.keysV {L : Ents} {es : List (D × D)} (l : Le F H) (r : RelD K F L es) : ∀ e ∈ L, e.1.depth ≤ 8 ∧ ∃ v, RelV v e.2.1 ∧ KeyV K H v e.1 := by
  induction L generalizing es with
  | nil => intro e he; cases he
  | cons p L ih =>
    cases r with
    | cons a b c d e r =>
      intro q hq
      rcases List.mem_cons.mp hq with rfl | hq
      · obtain ⟨e1, e2⟩ := key8_ok a
        exact ⟨e2, _, b, c.key l e1⟩
      · exact ih r q hq
structure DicV (K : PySem.W.Frag) (H : Hp) (a : Addr) (L : Ents) : Prop where
  at_ : H a = some (DicHO a L)
  ns : (a == sysModules) = false
  nd : ndK L
  ks : ∀ e ∈ L, e.1.depth ≤ 8 ∧ ∃ v, RelV v e.2.1 ∧ KeyV K H v e.1
theorem Rl.dic {v : V} {es : List (D × D)} (l : Le F H) (h : Rl K F H v (.dic es)) : ∃ a L, v = .ref a ∧ DicV K H a L ∧ RelD K F L es := by
  rcases h with h | ⟨a, rfl, L, e, ns, nd, r⟩
  · cases h with
    | dic e ns nd r => exact ⟨_, _, rfl, ⟨l _ _ e, ns, nd, r.keysV l⟩, r⟩
  · exact ⟨a, L, rfl, ⟨e, ns, nd, r.keysV l⟩, r⟩
end
/-! ## in, not in -/
section
variable {C : Cq} {Z Z' F F' H H' : Hp} {σ σ' : St} {ρ ρ' : Rho} {X : Cx} {K : PySem.W.Frag}
def hasE (es : List (D × D)) (x : D) : Option Bool := (key8 x).map fun k => (findD es k).isSome
def gInD (x y : D) : Option (D × Bool) := match y with
  | .dic es => (hasE es x).map fun b => (.bl b, false)
  | _ => gIn x y
def gNiD (x y : D) : Option (D × Bool) := match y with
  | .dic es => (hasE es x).map fun b => (.bl (!b), false)
  | _ => gNi x y
/-! ## d[k] -/
def gIxD (a b : D) : Option (D × Bool) := match a with
  | .dic es => ((key8 b).bind (findD es)).map fun d => (d, false)
  | _ => gIx a b
/-! ## {} -/
def sDicN (ρ : Rho) : R (D × Bool) := .ok (.dic [], true) ρ
end
end Nu
namespace Nu
open PySem PySem.Spec PyProof.Rows L2
variable [WorldI]
section
variable {C : Cq} {Z Z' F F' H H' : Hp} {σ σ' : St} {ρ ρ' : Rho} {X : Cx} {K : PySem.W.Frag}
/-! ## d[k] = v, xs[i] = v -/
def isLD : Option (Option (D × Kd)) → Bool
  | some (some (.lst _, k)) => decide (k ≠ .sh)
  | some (some (.dic _, k)) => decide (k ≠ .sh)
  | _ => false
def setDic (i : Nat) (x d : D) (es : List (D × D)) (k : Kd) (ρ : Rho) : Option Rho := if k = .sh then none else if es.length < 1000000 then (key8 x).map fun kk => ρ.set i (some (.dic (putE es x kk d), k)) else none
def setIxD (i : Nat) (x d : D) (ρ : Rho) : Option Rho := match ρ[i]? with
  | some (some (.dic es, k)) => setDic i x d es k ρ
  | _ => setIx i x d ρ
def sSetIxD (i : Nat) (fi fv : Rho → R (D × Bool)) (ρ : Rho) : Ss := Rx (fv ρ) fun a ρ1 => if isLD ρ1[i]? = true then Rx (fi ρ1) fun b ρ2 => optS (setIxD i b.1 a.1 ρ2) fun ρ3 => .nx ρ3 else .err
end
section
variable {ρ : Rho} {QE : R (D × Bool) → Prop} {QS : Ss → Prop}
@[simp ↓] theorem w_dicN : wpR (sDicN ρ) QE = wpR (.ok (.dic [], true) ρ) QE := (rfl)
@[simp ↓] theorem w_setIxD {i : Nat} {fi fv : Rho → R (D × Bool)} : wpS (sSetIxD i fi fv ρ) QS = wpR (fv ρ) (ThX (fun a ρ1 => if isLD ρ1[i]? = true then Rx (fi ρ1) fun b ρ2 => (optS (setIxD i b.1 a.1 ρ2) fun ρ3 => .nx ρ3) else .err) QS) := by
  rw [← wp_rx]; rfl
@[simp] theorem isLD_l {ds : List D} {k : Kd} : isLD (some (some (.lst ds, k))) = decide (k ≠ .sh) := rfl
@[simp] theorem isLD_d {es : List (D × D)} {k : Kd} : isLD (some (some (.dic es, k))) = decide (k ≠ .sh) := rfl
@[simp] theorem setIxD_dic {i : Nat} {x d : D} : setIxD i x d ρ = match ρ[i]? with
  | some (some (.dic es, k)) => setDic i x d es k ρ
  | _ => setIx i x d ρ := rfl
@[simp] theorem gInD_d {x : D} {es : List (D × D)} : gInD x (.dic es) = (hasE es x).map fun b => (.bl b, false) := rfl
@[simp] theorem gNiD_d {x : D} {es : List (D × D)} : gNiD x (.dic es) = (hasE es x).map fun b => (.bl (!b), false) := rfl
@[simp] theorem gIxD_d {b : D} {es : List (D × D)} : gIxD (.dic es) b = ((key8 b).bind (findD es)).map fun d => (d, false) := rfl
@[simp] theorem gIxD_l {b : D} {ds : List D} : gIxD (.lst ds) b = gIx (.lst ds) b := rfl
@[simp] theorem gIxD_t {b : D} {ds : List D} : gIxD (.tup ds) b = gIx (.tup ds) b := rfl
@[simp] theorem gIxD_s {b : D} {z : List Cp} : gIxD (.str z) b = gIx (.str z) b := rfl
@[simp] theorem gInD_l {x : D} {ds : List D} : gInD x (.lst ds) = gIn x (.lst ds) := rfl
@[simp] theorem gInD_t {x : D} {ds : List D} : gInD x (.tup ds) = gIn x (.tup ds) := rfl
@[simp] theorem gInD_s {x : D} {z : List Cp} : gInD x (.str z) = gIn x (.str z) := rfl
@[simp] theorem gNiD_l {x : D} {ds : List D} : gNiD x (.lst ds) = gNi x (.lst ds) := rfl
@[simp] theorem gNiD_t {x : D} {ds : List D} : gNiD x (.tup ds) = gNi x (.tup ds) := rfl
@[simp] theorem gNiD_s {x : D} {z : List Cp} : gNiD x (.str z) = gNi x (.str z) := rfl
end
end Nu
namespace Nu
open PySem PySem.Spec PyProof.Rows L2
variable [WorldI]
section
variable {C : Cq} {Z Z' F F' H H' : Hp} {σ σ' : St} {ρ ρ' : Rho} {X : Cx} {K : PySem.W.Frag}
/-! ## {k: v} -/
def sDic1 (fk fv : Rho → R (D × Bool)) (ρ : Rho) : R (D × Bool) := (fk ρ).bind fun a ρ1 => (fv ρ1).bind fun b ρ2 => optR (if a.2 = true then none else key8 a.1) fun _ => .ok (.dic [(a.1, b.1)], true) ρ2
end
section
variable {ρ : Rho} {QE : R (D × Bool) → Prop}
@[simp ↓] theorem w_dic1 {fk fv : Rho → R (D × Bool)} : wpR (sDic1 fk fv ρ) QE = wpR (fk ρ) (ThR (fun a ρ1 => (fv ρ1).bind fun b ρ2 => optR (if a.2 = true then none else key8 a.1) fun _ => .ok (.dic [(a.1, b.1)], true) ρ2) QE) := wp_bind
end
end Nu
namespace NuQ
open PySem PySem.SeqAt
open AutoSeq1 (wpAny_loadPart')
open MeetsSeq MeetsSeq2 MeetsSeq3 SeqRoads2
open GQ
section
variable {prog : Program} {w : World} {A : Around} {R : Result → Shared → Prop}
end
section
variable {prog : Program} {w : World} {A : Around} {E : Value → Shared → Prop} {s : Shared}
end
end NuQ
namespace Nu
open PySem PySem.Spec PyProof.Rows L2
variable [WorldI]
section
variable {C : Cq} {Z Z' F F' H H' : Hp} {σ σ' : St} {ρ ρ' : Rho} {X : Cx} {K : PySem.W.Frag}
/-! ## list != list, told by their lengths alone -/
def selNeS (a b : Option D) : Option Bool := (a.bind lstOf).bind fun xs => (b.bind lstOf).bind fun ys => if xs.length ≠ ys.length ∨ ys.length = 0 then some (xs.length != ys.length) else none
def sNeS (f1 f2 : Rho → R Opd) (ρ : Rho) : R (D × Bool) :=
  (f1 ρ).bind fun o1 ρ1 => (f2 ρ1).bind fun o2 ρ2 => optR (selNeS (peek ρ2 o1) (peek ρ2 o2)) fun b => .ok (.bl b, false) ρ2
end
section
variable {ρ : Rho} {QE : R (D × Bool) → Prop}
@[simp ↓] theorem w_neS {f1 f2 : Rho → R Opd} : wpR (sNeS f1 f2 ρ) QE = wpR (f1 ρ) (ThR (fun o1 ρ1 => (f2 ρ1).bind fun o2 ρ2 => optR (selNeS (peek ρ2 o1) (peek ρ2 o2)) fun b => .ok (.bl b, false) ρ2) QE) := wp_bind
@[simp] theorem selNeS_l {xs : List D} : selNeS (some (.lst xs)) (some (.lst [])) = some (!xs.isEmpty) := by
  cases xs <;> rfl
end
section
variable {C : Cq} {Z Z' F F' H H' : Hp} {σ σ' : St} {ρ ρ' : Rho} {X : Cx} {K : PySem.W.Frag}
/-! ## two names at once, of which one is a cell: a tuple is made and taken apart -/
end
end Nu
namespace Nu
open PySem PySem.Spec PyProof.Rows L2
variable [WorldI]
/-! ## isinstance(x, T): T a built-in type, x an object of the program, or data -/
structure IsBOk (K : PySem.W.Frag) (cs : List Str) (u : String) : Prop where
  own : ∀ c ∈ cs, Cls K (He.ga K c) ∧ PySem.W.findIn K (.ref (He.ga K c)) "__class__" = some (some (.builtin "object.__class__")) ∧ PySem.W.mroIn K (He.ga K c) (.type "object") = some true ∧ PySem.W.kitOne K (.ref (He.ga K c)) (.type u) = some false
  sp : PySem.W.specialIn K (.builtin "object.__class__") "__get__" = some (some (.builtin "getset_descriptor.__get__"))
  tk : PySem.W.takesIn K (.builtin "object.__class__") = some true
def gIsB (cs : List Str) (u : String) : D → Option (D × Bool)
  | .obj c _ => if c ∈ cs then some (.bl false, false) else none
  | d => gIsi [d, .ty u]
def sIsB (cs : List Str) (u : String) (f : Rho → R Opd) (ρ : Rho) : R (D × Bool) := (f ρ).bind fun o ρ1 => R.of ((peek ρ1 o).bind (gIsB cs u)) ρ1
section
variable {C : Cq} {Z Z' F F' H H' : Hp} {σ σ' : St} {ρ ρ' : Rho} {X : Cx}
end
@[simp ↓] theorem w_isB {cs : List Str} {u : String} {f : Rho → R Opd} {ρ : Rho} {QE : R (D × Bool) → Prop} : wpR (sIsB cs u f ρ) QE = wpR (f ρ) (ThR (fun o ρ1 => R.of ((peek ρ1 o).bind (gIsB cs u)) ρ1) QE) := wp_bind
@[simp] theorem gIsB_non {cs : List Str} {u : String} : gIsB cs u .non = gIsi [.non, .ty u] := rfl
@[simp] theorem gIsB_bl {cs : List Str} {u : String} {b : Bool} : gIsB cs u (.bl b) = gIsi [.bl b, .ty u] := rfl
@[simp] theorem gIsB_int {cs : List Str} {u : String} {b : Int} : gIsB cs u (.int b) = gIsi [.int b, .ty u] := rfl
@[simp] theorem gIsB_str {cs : List Str} {u : String} {b : List Cp} : gIsB cs u (.str b) = gIsi [.str b, .ty u] := rfl
@[simp] theorem gIsB_tup {cs : List Str} {u : String} {b : List D} : gIsB cs u (.tup b) = gIsi [.tup b, .ty u] := rfl
@[simp] theorem gIsB_lst {cs : List Str} {u : String} {b : List D} : gIsB cs u (.lst b) = gIsi [.lst b, .ty u] := rfl
@[simp] theorem gIsB_emp {cs : List Str} {u : String} : gIsB cs u .emp = gIsi [.emp, .ty u] := rfl
end Nu
namespace Nu
open PySem PySem.Spec PyProof.Rows L2
variable [WorldI]
section
variable {C : Cq} {Z Z' F F' H H' : Hp} {σ σ' : St} {ρ ρ' : Rho} {X : Cx}
/-! ## [f for t in it for t1 in it1 if tt1] -/
def lcLoop2 (vs vs1 : List Nat) (t : Tg) (it1 : Rho → R (List D)) (t1 : Tg) (tt1 : Rho → R Bool) (f : Rho → R (D × Bool)) : List D → List D → Rho → R (List D)
  | [], acc, ρ => .ok acc ρ
  | d :: ds, acc, ρ => match t.set d ρ with
    | none => .err
    | some ρ1 => match it1 ρ1 with
      | .ok es ρ2 => (match lcLoop vs1 t1 tt1 f es acc (wipeR ρ2 vs1) with
        | .ok acc' ρ3 => lcLoop2 vs vs1 t it1 t1 tt1 f ds acc' (wipeR ρ3 vs)
        | _ => .err)
      | _ => .err
def sLc2 (vs vs1 : List Nat) (t : Tg) (it : Rho → R (List D)) (t1 : Tg) (it1 : Rho → R (List D)) (tt1 : Rho → R Bool) (f : Rho → R (D × Bool)) (ρ : Rho) : R (D × Bool) :=
  (it ρ).bind fun ds ρ1 => (lcLoop2 vs vs1 t it1 t1 tt1 f ds [] (wipeR ρ1 vs)).bind fun acc ρ2 => .ok (.lst acc, true) ρ2
end
section
variable {vs vs1 : List Nat} {t t1 : Tg} {it it1 : Rho → R (List D)} {tt1 : Rho → R Bool} {f : Rho → R (D × Bool)} {ρ : Rho}
@[simp ↓] theorem w_lc2 {Q : R (D × Bool) → Prop} : wpR (sLc2 vs vs1 t it t1 it1 tt1 f ρ) Q = wpR (it ρ) (ThR (fun ds ρ1 => (lcLoop2 vs vs1 t it1 t1 tt1 f ds [] (wipeR ρ1 vs)).bind fun acc ρ2 => .ok (.lst acc, true) ρ2) Q) := wp_bind
end
end Nu
namespace Nu
open PySem PySem.Spec PyProof.Rows L2
variable [WorldI]
section
variable {K : PySem.W.Frag}
/-! ## max, min of a list of ints -/
def topI (up : Bool) : List Int → Int → Int
  | [], m => m
  | x :: xs, m => topI up xs (if (if up then m < x else x < m) then x else m)
def topL (up : Bool) : List Int → Option (D × Bool)
  | [] => none
  | x :: xs => some (.int (topI up xs x), false)
def gMaxL : List D → Option (D × Bool)
  | [.lst ds] => (intsOf ds).bind (topL true)
  | _ => none
def gMinL : List D → Option (D × Bool)
  | [.lst ds] => (intsOf ds).bind (topL false)
  | _ => none
@[simp] theorem gMaxL_2 {i j : Int} : gMaxL [.lst [.int i, .int j]] = some (.int (if i < j then j else i), false) := rfl
@[simp] theorem gMinL_2 {i j : Int} : gMinL [.lst [.int i, .int j]] = some (.int (if j < i then j else i), false) := rfl
end
end Nu
/-! zip of a tuple and a list -/
namespace NuZ
open PySem
section
variable {prog : Program} {w : World} {A : Around} {E : Value → Shared → Prop} {s : Shared}
end
/-! ### the call -/
abbrev zA (h : Heap) (a : Addr) : Heap := h.push { cls := .type "tuple_iterator", data := .fields #[.ref a, .int 0 0] }
abbrev zB (h : Heap) (a b : Addr) : Heap := (zA h a).push { cls := .type "list_iterator", data := .fields #[.ref b, .int 0 0] }
abbrev zC (h : Heap) (a b : Addr) : Heap := (zB h a b).push { cls := .type "tuple", data := .seq #[.ref h.objs.size, .ref (zA h a).objs.size] }
abbrev zD (h : Heap) (a b : Addr) : Heap := (zC h a b).push { cls := .type "tuple", data := .seq #[.none, .none] }
abbrev zE (h : Heap) (a b : Addr) : Heap := (zD h a b).push { cls := .type "zip", data := .fields #[.none, .bool false, .bool false, .ref (zB h a b).objs.size, .ref (zC h a b).objs.size] }
section
variable {prog : Program} {w : World} {A : Around} {E : Value → Shared → Prop} {s : Shared}
end
end NuZ
namespace NuZ
open PySem PySem.Spec PyProof.Rows L2
end NuZ
namespace Nu
open PySem PySem.Spec PyProof.Rows L2
variable [WorldI]
section
variable {C : Cq} {Z Z' F F' H H' : Hp} {σ σ' : St} {ρ ρ' : Rho} {X : Cx} {K : PySem.W.Frag}
def zipA : List Opd → Option (List D)
  | [.val (.tup xs), .val (.lst ys)] => some (zipD xs ys)
  | os => zipO os
def sZipA (f : Rho → R (List Opd)) (ρ : Rho) : R (List D) := (f ρ).bind fun os ρ1 => R.of (zipA os) ρ1
end
section
variable {ρ : Rho} {QL : R (List D) → Prop}
@[simp ↓] theorem w_zipA {f : Rho → R (List Opd)} : wpR (sZipA f ρ) QL = wpR (f ρ) (ThR (fun os ρ1 => R.of (zipA os) ρ1) QL) := wp_bind
@[simp] theorem zipA_l {xs ys : List D} : zipA [.val (.lst xs), .val (.lst ys)] = some (zipD xs ys) := rfl
@[simp] theorem zipA_t {xs ys : List D} : zipA [.val (.tup xs), .val (.tup ys)] = some (zipD xs ys) := rfl
@[simp] theorem zipA_m {xs ys : List D} : zipA [.val (.tup xs), .val (.lst ys)] = some (zipD xs ys) := rfl
end
end Nu
namespace Nu
open PySem PySem.Spec PyProof.Rows L2
variable [WorldI]
def as3V : List Av → Option (Av × Av × Av)
  | [a, b, c] => some (a, b, c)
  | _ => none
def sParV3 (i j l : Nat) (g : Rho → R (List Av)) (ρ : Rho) : Ss := Rx (g ρ) fun as ρ1 => optS ((as3V as).bind fun p => ((putV i p.1 ρ1).bind (putV j p.2.1)).bind (putV l p.2.2)) fun ρ2 => .nx ρ2
section
variable {C : Cq} {Z Z' F F' H H' : Hp} {σ σ' : St} {ρ ρ' : Rho} {X : Cx} {K : PySem.W.Frag}
/-! ## three names at once, of which one is a cell -/
end
section
variable {ρ : Rho} {QS : Ss → Prop}
@[simp ↓] theorem w_parV3 {i j l : Nat} {g : Rho → R (List Av)} : wpS (sParV3 i j l g ρ) QS = wpR (g ρ) (ThX (fun as ρ1 => optS ((as3V as).bind fun p => ((putV i p.1 ρ1).bind (putV j p.2.1)).bind (putV l p.2.2)) fun ρ2 => .nx ρ2) QS) := wp_rx
@[simp] theorem as3V_3 {a b c : Av} : as3V [a, b, c] = some (a, b, c) := rfl
end
end Nu
namespace Nu
open PySem PySem.Spec PyProof.Rows L2
variable [WorldI]
def sMv (i : Nat) (ρ : Rho) : R (D × Bool) :=
  match ρ[i]? with
  | some (some (d, .sh)) => .ok (d, false) ρ
  | some (some (d, .ow)) => .ok (d, true) (ρ.set i none)
  | _ => .err
section
variable {C : Cq} {X : Cx}
end
def ThMv (i : Nat) (ρ : Rho) (Q : R (D × Bool) → Prop) : Option (Option (D × Kd)) → Prop
  | some (some (d, .sh)) => Q (.ok (d, false) ρ)
  | some (some (d, .ow)) => Q (.ok (d, true) (ρ.set i none))
  | _ => Q .err
section
variable {ρ : Rho} {Q : R (D × Bool) → Prop}
@[simp ↓] theorem w_mv {i : Nat} : wpR (sMv i ρ) Q = wpO ρ[i]? (ThMv i ρ Q) := by
  unfold sMv
  cases ρ[i]? with
  | none => rfl
  | some s =>
    cases s with
    | none => rfl
    | some p => obtain ⟨d, k⟩ := p; cases k <;> rfl
@[simp ↓] theorem thmv_sh {i : Nat} {d : D} : wpO (some (some (d, .sh))) (ThMv i ρ Q) = wpR (.ok (d, false) ρ) Q := (rfl)
@[simp ↓] theorem thmv_ow {i : Nat} {d : D} : wpO (some (some (d, .ow))) (ThMv i ρ Q) = wpR (.ok (d, true) (ρ.set i none)) Q := (rfl)
end
end Nu
namespace Nu
open PySem PySem.Spec PyProof.Rows L2
variable [WorldI]
/-! ## text.index(text), found -/
def idxS (s t : List Cp) : Option Nat := (List.range (s.length + 1)).find? fun i => decide (i + t.length ≤ s.length) && subAtL s t i
def sIdx (f1 f2 : Rho → R Opd) (ρ : Rho) : R (D × Bool) := (f1 ρ).bind fun o1 ρ1 => optR (asS o1) fun s => (f2 ρ1).bind fun o2 ρ2 => optR ((asS o2).bind (idxS s)) fun i => .ok (.int (i : Nat), false) ρ2
section
variable {C : Cq} {Z Z' F F' H H' : Hp} {σ σ' : St} {ρ ρ' : Rho} {X : Cx} {K : PySem.W.Frag}
end
section
variable {ρ : Rho} {QE : R (D × Bool) → Prop}
@[simp ↓] theorem w_idx {f1 f2 : Rho → R Opd} : wpR (sIdx f1 f2 ρ) QE = wpR (f1 ρ) (ThR (fun o1 ρ1 => optR (asS o1) fun s => (f2 ρ1).bind fun o2 ρ2 => optR ((asS o2).bind (idxS s)) fun i => .ok (.int (i : Nat), false) ρ2) QE) := wp_bind
end
/-! ## a text not in a text -/
def gNi2 : D → D → Option (D × Bool)
  | .str x, .str z => some (.bl (!isSub x z), false)
  | _, _ => none
section
variable {K : PySem.W.Frag}
@[simp] theorem gNi2_s (x z : List Cp) : gNi2 (.str x) (.str z) = some (.bl (!isSub x z), false) := rfl
end
end Nu
namespace Nu
open PySem PySem.Spec PyProof.Rows L2
variable [WorldI]
/-! ## list.index(item), found, flat items -/
def idxL (a x : D) : Option (D × Bool) := match a with
  | .lst ds => if flD x = true ∧ ds.all flD = true then ((ds.map vD).findIdx? fun y => eqV y (vD x)).map fun j => (.int (j : Nat), false) else none
  | _ => none
def sIdxL (f1 f2 : Rho → R Opd) (ρ : Rho) : R (D × Bool) := (f1 ρ).bind fun o1 ρ1 => optR ((peek ρ1 o1).bind lstOf) fun _ => (f2 ρ1).bind fun o2 ρ2 => R.of ((peek ρ2 o1).bind fun d1 => (peek ρ2 o2).bind fun d2 => idxL d1 d2) ρ2
section
variable {C : Cq} {Z Z' F F' H H' : Hp} {σ σ' : St} {ρ ρ' : Rho} {X : Cx} {K : PySem.W.Frag}
theorem de_idxL {o e : Expr} {f1 f2 : Rho → R Opd} {apos cpos : Pos} (hk : X.K = C.K) (ho : PE X o (tO C f1)) (he : PE X e (tO C f2)) (hbase : attributeBase o "index" X.env (eval o X.env) = eval o X.env := by rfl)
    (hfew : ((backTo cpos (starEach [e] X.env)).all (fun x => !x.1) && (backToKw cpos (keywordEach [] X.env)).all (fun x => x.1.isSome) && decide ([e].length + ([] : List Keyword).length + (if ([] : List Keyword).isEmpty then 0 else 1) < 30)) = true := by rfl)
    (hline : (apos.endLine == cpos.line) = true := by rfl) (hs : starEach [e] X.env = (false, eval e X.env) :: starEach [] X.env := by rfl) (hplain : (backTo cpos (starEach [] X.env)).any (·.1) = false := by rfl) : PE X (.Call (.Attribute o "index" apos) [e] [] cpos) (tE C (sIdxL f1 f2)) :=
  PE.imp (pe_bm PySem.F.plainAttrs_list PySem.F.slot_list_index PySem.F.type_list_index mt_index ho (pa_cons he pa_nil hs) hbase hfew hline hs hplain) fun σ H Q ⟨Z, F, ρ, S, m⟩ => tG.step S m fun o1 ρ1 F1 H1 v l S1 r m1 => by
    obtain ⟨ds0, e1, m1⟩ := at_opt m1
    obtain ⟨d1, p1, e2⟩ := Option.bind_eq_some_iff.mp e1
    have rl := peek_rl S1 r p1
    cases d1 with
    | lst ds =>
      cases e2
      obtain ⟨a, vs, rfl, ha, rr⟩ := rl.lst S1.fh
      refine ⟨.inl ⟨rfl, vs, .of ha⟩, tG.step S1 m1 fun o2 ρ2 F2 H2 w l2 S2 r2 m2 => ?_⟩
      have r1 : relO C.K Z F2 H2 σ ρ2 (V.ref a) o1 := relO_later l2 r
      cases q1 : peek ρ2 o1 with
      | none => rw [q1] at m2; exact m2.elim
      | some d1 =>
        cases q2 : peek ρ2 o2 with
        | none => rw [q1, q2] at m2; exact m2.elim
        | some d2 =>
          rw [q1, q2] at m2
          have rl1 := peek_rl S2 r1 q1
          have rl2 := peek_rl S2 r2 q2
          cases d1 with
          | lst es =>
            obtain ⟨b, us, eb, hb, rs⟩ := rl1.lst S2.fh
            cases eb
            have m3 : At C (relE C.K) Z F2 σ Q (R.of (if flD d2 = true ∧ es.all flD = true then ((es.map vD).findIdx? fun y => eqV y (vD d2)).map fun j => (D.int (j : Nat), false) else none) ρ2) := m2
            by_cases hf : flD d2 = true ∧ es.all flD = true
            · rw [if_pos hf] at m3
              have f1 := rl2.flat hf.1
              have f2 := rs.flat hf.2
              subst f1
              subst f2
              cases hj : (es.map vD).findIdx? fun y => eqV y (vD d2) with
              | none => rw [hj] at m3; exact m3.elim
              | some j =>
                rw [hj] at m3
                obtain ⟨hjl, h1, h2⟩ := List.findIdx?_eq_some_iff_getElem.mp hj
                refine ⟨a, es.map vD, vD d2, j, _, rfl, rfl, .of hb, vD_flat _, ?_, List.getElem?_eq_getElem hjl, h1, fun k z' hk hz => ?_, m3 F2 H2 _ (Evl.Ex.refl F2) S2 (Rel.int _)⟩
                · rw [List.all_eq_true]
                  intro z hz
                  obtain ⟨d, _, e⟩ := List.mem_map.mp hz
                  rw [← e]
                  exact vD_flat d
                · obtain ⟨hkl, e⟩ := List.getElem?_eq_some_iff.mp hz
                  rw [← e]
                  exact Bool.eq_false_iff.mpr (h2 k hk)
            · rw [if_neg hf] at m3; exact m3.elim
          | _ => exact m2.elim
    | _ => cases e2
end
section
variable {ρ : Rho} {QE : R (D × Bool) → Prop}
@[simp ↓] theorem w_idxL {f1 f2 : Rho → R Opd} : wpR (sIdxL f1 f2 ρ) QE = wpR (f1 ρ) (ThR (fun o1 ρ1 => optR ((peek ρ1 o1).bind lstOf) fun _ => (f2 ρ1).bind fun o2 ρ2 => R.of ((peek ρ2 o1).bind fun d1 => (peek ρ2 o2).bind fun d2 => idxL d1 d2) ρ2) QE) := wp_bind
end
end Nu
namespace Nu
open PySem PySem.Spec PyProof.Rows L2
variable [WorldI]
/-! ## name += number -/
def addI (d e : D) : Option D := match d, e with
  | .int a, .int c => some (.int (a + c))
  | _, _ => none
def shAt (o : Option (Option (D × Kd))) : Option D := match o with
  | some (some (d, .sh)) => some d
  | _ => none
def sAug (i : Nat) (f : Rho → R (D × Bool)) (ρ : Rho) : Ss := optS (shAt ρ[i]?) fun d => Rx (f ρ) fun a ρ1 => optS (if a.2 = true then none else addI d a.1) fun e => if isPin ρ1[i]? = true then .err else .nx (ρ1.set i (some (e, .sh)))
section
variable {C : Cq} {X : Cx}
end
section
variable {ρ : Rho} {QS : Ss → Prop}
@[simp ↓] theorem w_aug {i : Nat} {f : Rho → R (D × Bool)} : wpS (sAug i f ρ) QS = wpS (optS (shAt ρ[i]?) fun d => Rx (f ρ) fun a ρ1 => optS (if a.2 = true then none else addI d a.1) fun e => if isPin ρ1[i]? = true then .err else .nx (ρ1.set i (some (e, .sh)))) QS := (rfl)
@[simp] theorem shAt_sh {d : D} : shAt (some (some (d, .sh))) = some d := rfl
@[simp] theorem addI_i {a c : Int} : addI (.int a) (.int c) = some (.int (a + c)) := rfl
@[simp] theorem w_rxs {α : Type} {r : R α} {k : α → Rho → Ss} : wpS (Rx r k) QS = wpR r (ThX k QS) := wp_rx
end
end Nu
namespace NuD
open PySem
section
variable {prog : Program} {w : World} {A : Around} {E : Value → Shared → Prop} {s : Shared} {d : Addr} {xs : List Ent} {k : NestedKey} {key : Value}
end
end NuD
namespace Nu
open PySem PySem.Spec PyProof.Rows L2
variable [WorldI]
/-! ## d.get(key, other) -/
def dicOf : D → Option (List (D × D))
  | .dic es => some es
  | _ => none
def valO : Opd → Option D
  | .val d => some d
  | .var _ => none
def gGet (a b c : D) : Option (D × Bool) := (dicOf a).bind fun es => (key8 b).map fun k => ((findD es k).getD c, false)
def sGetK (f1 f2 f3 : Rho → R Opd) (ρ : Rho) : R (D × Bool) := (f1 ρ).bind fun o1 ρ1 => optR ((peek ρ1 o1).bind dicOf) fun _ => (f2 ρ1).bind fun o2 ρ2 => (f3 ρ2).bind fun o3 ρ3 => R.of ((peek ρ3 o1).bind fun d1 => (valO o2).bind fun k => (valO o3).bind fun z => gGet d1 k z) ρ3
section
variable {C : Cq} {Z Z' F F' H H' : Hp} {σ σ' : St} {ρ ρ' : Rho} {X : Cx} {K : PySem.W.Frag}
end
section
variable {ρ : Rho} {QE : R (D × Bool) → Prop}
@[simp ↓] theorem w_getK {f1 f2 f3 : Rho → R Opd} : wpR (sGetK f1 f2 f3 ρ) QE = wpR (f1 ρ) (ThR (fun o1 ρ1 => optR ((peek ρ1 o1).bind dicOf) fun _ => (f2 ρ1).bind fun o2 ρ2 => (f3 ρ2).bind fun o3 ρ3 => R.of ((peek ρ3 o1).bind fun d1 => (valO o2).bind fun k => (valO o3).bind fun z => gGet d1 k z) ρ3) QE) := wp_bind
@[simp] theorem dicOf_dic (es : List (D × D)) : dicOf (.dic es) = some es := rfl
@[simp] theorem valO_val (d : D) : valO (.val d) = some d := rfl
@[simp] theorem gGet_s (es : List (D × D)) (x : List Cp) (c : D) : gGet (.dic es) (.str x) c = some ((findD es (.text (toStr x))).getD c, false) := by
  unfold gGet dicOf
  have : key8 (.str x) = some (.text (toStr x)) := by rfl
  rw [Option.bind_some, this, Option.map_some]
end
end Nu
namespace PySem.W
open PySem PySem.SeqAt PyProof.Rows
section
variable {prog : Program} {w : World} {A : Around} {E : Value → Shared → Prop} {s : Shared}
end
end PySem.W
namespace Nu
open PySem PySem.Spec PyProof.Rows L2
variable [WorldI]
/-! ## min of a list of data -/
section
variable {C : Cq} {Z Z' F F' H H' : Hp} {σ σ' : St} {ρ ρ' : Rho} {X : Cx} {K : PySem.W.Frag}
end
end Nu
/-! zip of two texts -/
namespace NuZ
open PySem
end NuZ
namespace NuZ
open PySem PySem.Spec PyProof.Rows L2
end NuZ
namespace Nu
open PySem PySem.Spec PyProof.Rows L2
variable [WorldI]
section
variable {C : Cq} {Z Z' F F' H H' : Hp} {σ σ' : St} {ρ ρ' : Rho} {X : Cx} {K : PySem.W.Frag}
def zipB : List Opd → Option (List D)
  | [.val (.str a), .val (.str b)] => some (zipD (chars a) (chars b))
  | _ => none
def sZipB (f : Rho → R (List Opd)) (ρ : Rho) : R (List D) := (f ρ).bind fun os ρ1 => R.of (zipB os) ρ1
end
section
variable {ρ : Rho} {QL : R (List D) → Prop}
@[simp ↓] theorem w_zipB {f : Rho → R (List Opd)} : wpR (sZipB f ρ) QL = wpR (f ρ) (ThR (fun os ρ1 => R.of (zipB os) ρ1) QL) := wp_bind
@[simp] theorem zipB_s {a b : List Cp} : zipB [.val (.str a), .val (.str b)] = some (zipD (chars a) (chars b)) := rfl
end
end Nu
namespace Nu
open PySem PySem.Spec PyProof.Rows L2
variable [WorldI]
def as4V : List Av → Option (Av × Av × Av × Av)
  | [a, b, c, d] => some (a, b, c, d)
  | _ => none
def sParV4 (i j l m : Nat) (g : Rho → R (List Av)) (ρ : Rho) : Ss := Rx (g ρ) fun as ρ1 => optS ((as4V as).bind fun p => (((putV i p.1 ρ1).bind (putV j p.2.1)).bind (putV l p.2.2.1)).bind (putV m p.2.2.2)) fun ρ2 => .nx ρ2
section
variable {C : Cq} {Z Z' F F' H H' : Hp} {σ σ' : St} {ρ ρ' : Rho} {X : Cx} {K : PySem.W.Frag}
/-! ## four names at once -/
end
section
variable {ρ : Rho} {QS : Ss → Prop}
@[simp ↓] theorem w_parV4 {i j l m : Nat} {g : Rho → R (List Av)} : wpS (sParV4 i j l m g ρ) QS = wpR (g ρ) (ThX (fun as ρ1 => optS ((as4V as).bind fun p => (((putV i p.1 ρ1).bind (putV j p.2.1)).bind (putV l p.2.2.1)).bind (putV m p.2.2.2)) fun ρ2 => .nx ρ2) QS) := wp_rx
@[simp] theorem as4V_4 {a b c d : Av} : as4V [a, b, c, d] = some (a, b, c, d) := rfl
end
end Nu
namespace Nu
open PySem PySem.Spec PyProof.Rows L2
variable [WorldI]
section
variable {C : Cq} {Z Z' F F' H H' : Hp} {σ σ' : St} {ρ ρ' : Rho} {X : Cx} {K : PySem.W.Frag}
/-! ## three names at once: what is new stays owned -/
end
end Nu
namespace Nu
open PySem PySem.Spec PyProof.Rows L2
variable [WorldI]
/-! ## text.strip(signs) -/
def stripL (s t : List Cp) : List Cp := ((s.dropWhile fun c => decide (c ∈ t)).reverse.dropWhile fun c => decide (c ∈ t)).reverse
def stripD (s t : List Cp) : Option (List Cp) := if s.length ≤ PySem.sizeLine then some (stripL s t) else none
def sStrip (f1 f2 : Rho → R Opd) (ρ : Rho) : R (D × Bool) := (f1 ρ).bind fun o1 ρ1 => optR (asS o1) fun s => (f2 ρ1).bind fun o2 ρ2 => optR ((asS o2).bind (stripD s)) fun i => .ok (.str i, false) ρ2
section
variable {C : Cq} {Z Z' F F' H H' : Hp} {σ σ' : St} {ρ ρ' : Rho} {X : Cx} {K : PySem.W.Frag}
end
section
variable {ρ : Rho} {QE : R (D × Bool) → Prop}
@[simp ↓] theorem w_strip {f1 f2 : Rho → R Opd} : wpR (sStrip f1 f2 ρ) QE = wpR (f1 ρ) (ThR (fun o1 ρ1 => optR (asS o1) fun s => (f2 ρ1).bind fun o2 ρ2 => optR ((asS o2).bind (stripD s)) fun i => .ok (.str i, false) ρ2) QE) := wp_bind
end
end Nu
namespace NuD
open PySem
section
variable {prog : Program} {w : World} {A : Around} {E : Value → Shared → Prop} {s : Shared}
end
end NuD
namespace Nu
open PySem PySem.Spec PyProof.Rows L2
variable [WorldI]
/-! ## {k: v, l: u} -/
def strF : D × Bool → Option (List Cp)
  | (.str s, false) => some s
  | _ => none
def shF : D × Bool → Option D
  | (d, false) => some d
  | _ => none
def neF (x : List Cp) (c : D × Bool) : Option (List Cp) := (strF c).bind fun y => if x = y then none else some y
def sDic2 (fk fv fl fu : Rho → R (D × Bool)) (ρ : Rho) : R (D × Bool) := (fk ρ).bind fun a ρ1 => optR (strF a) fun x => (fv ρ1).bind fun b ρ2 => optR (shF b) fun bd => (fl ρ2).bind fun c ρ3 => optR (neF x c) fun y => (fu ρ3).bind fun e ρ4 => optR (shF e) fun ed => .ok (.dic [(.str x, bd), (.str y, ed)], true) ρ4
section
variable {C : Cq} {Z Z' F F' H H' : Hp} {σ σ' : St} {ρ ρ' : Rho} {X : Cx} {K : PySem.W.Frag}
end
section
variable {ρ : Rho} {QE : R (D × Bool) → Prop}
@[simp ↓] theorem w_dic2 {fk fv fl fu : Rho → R (D × Bool)} : wpR (sDic2 fk fv fl fu ρ) QE = wpR (fk ρ) (ThR (fun a ρ1 => optR (strF a) fun x => (fv ρ1).bind fun b ρ2 => optR (shF b) fun bd => (fl ρ2).bind fun c ρ3 => optR (neF x c) fun y => (fu ρ3).bind fun e ρ4 => optR (shF e) fun ed => .ok (.dic [(.str x, bd), (.str y, ed)], true) ρ4) QE) := wp_bind
@[simp] theorem strF_s {s : List Cp} : strF (.str s, false) = some s := rfl
@[simp] theorem shF_s {d : D} : shF (d, false) = some d := rfl
@[simp] theorem neF_s {x y : List Cp} : neF x (.str y, false) = if x = y then none else some y := rfl
end
end Nu
/-! walks over a dict: its keys, its values, its pairs -/
namespace NuD
open PySem PySem.Spec PyProof.Rows L2
variable [Nu.WorldI]
section
variable {P : Program} {w : World} {K : PySem.W.Frag} {tg : Expr} {h : Heap} {a : Addr} {L : List Ent}
abbrev arr (L : List Ent) : Array DictEntry := (L.map (entD Nu.WorldI.w)).toArray
end
section
variable {X : Cx} {tg e : Expr} {td : TE} {apos cpos : Pos}
end
end NuD
namespace Nu
open PySem PySem.Spec PyProof.Rows L2
variable [Nu.WorldI]
section
variable {C : Cq} {Z Z' F F' H H' : Hp} {σ σ' : St} {ρ ρ' : Rho} {X : Cx} {K : PySem.W.Frag}
theorem RelD.get {L : Ents} {es : List (D × D)} (r : RelD K F L es) {i : Nat} {p : D × D} (h : es[i]? = some p) : ∃ e v z, L[i]? = some e ∧ RelV v e.2.1 ∧ Rel K F v p.1 ∧ RelV z e.2.2 ∧ Rel K F z p.2 := by
  induction L generalizing es i with
  | nil => cases r; simp at h
  | cons q L ih =>
    cases r with
    | cons a b c d e r =>
      cases i with
      | zero => cases h; exact ⟨_, _, _, rfl, b, c, d, e⟩
      | succ i => exact ih r (by simpa using h)
/-! ## for k in d, d.values(), d.items() -/
def dicO (g : List (D × D) → List D) : Opd → Option (List D)
  | .val (.dic es) => some (g es)
  | _ => none
def keysD (es : List (D × D)) : List D := es.map (·.1)
def valsD (es : List (D × D)) : List D := es.map (·.2)
def sItD (g : List (D × D) → List D) (f : Rho → R Opd) (ρ : Rho) : R (List D) := (f ρ).bind fun o ρ1 => R.of (dicO g o) ρ1
end
section
variable {ρ : Rho} {QL : R (List D) → Prop}
@[simp ↓] theorem w_itD {g : List (D × D) → List D} {f : Rho → R Opd} : wpR (sItD g f ρ) QL = wpR (f ρ) (ThR (fun o ρ1 => R.of (dicO g o) ρ1) QL) := wp_bind
@[simp] theorem dicO_s {g : List (D × D) → List D} {es : List (D × D)} : dicO g (.val (.dic es)) = some (g es) := rfl
end
end Nu
/-! dict comprehensions -/
namespace NuD
open PySem PySem.Spec L2
open PyProof.Rows hiding St
variable [Nu.WorldI]
section
variable {X : Cx}
end
end NuD
namespace Nu
open PySem PySem.Spec PyProof.Rows L2
variable [Nu.WorldI]
section
variable {C : Cq} {Z Z' F F' H H' : Hp} {σ σ' : St} {ρ ρ' : Rho} {X : Cx} {K : PySem.W.Frag}
/-! ## {fk: fv for t in it if tt} -/
def keyF (a : D × Bool) : Option NestedKey := if a.2 = true then none else key8 a.1
def dcLoop (vs : List Nat) (t : Tg) (tt : Rho → R Bool) (fk fv : Rho → R (D × Bool)) : List D → List (D × D) → Rho → R (List (D × D))
  | [], acc, ρ => .ok acc ρ
  | d :: ds, acc, ρ => match t.set d ρ with
    | none => .err
    | some ρ1 => match tt ρ1 with
      | .ok true ρ2 => (match fk ρ2 with
        | .ok a ρ3 => (match fv ρ3 with
          | .ok b ρ4 => (match keyF a with
            | some k => if acc.length ≤ sizeLine then dcLoop vs t tt fk fv ds (putE acc a.1 k b.1) (wipeR ρ4 vs) else .err
            | none => .err)
          | _ => .err)
        | _ => .err)
      | .ok false ρ2 => dcLoop vs t tt fk fv ds acc (wipeR ρ2 vs)
      | _ => .err
def sDc (vs : List Nat) (t : Tg) (it : Rho → R (List D)) (tt : Rho → R Bool) (fk fv : Rho → R (D × Bool)) (ρ : Rho) : R (D × Bool) :=
  (it ρ).bind fun ds ρ1 => (dcLoop vs t tt fk fv ds [] (wipeR ρ1 vs)).bind fun acc ρ2 => .ok (.dic acc, true) ρ2
end
section
variable {vs : List Nat} {t : Tg} {it : Rho → R (List D)} {tt : Rho → R Bool} {fk fv : Rho → R (D × Bool)} {ρ : Rho}
@[simp ↓] theorem w_dc {Q : R (D × Bool) → Prop} : wpR (sDc vs t it tt fk fv ρ) Q = wpR (it ρ) (ThR (fun ds ρ1 => (dcLoop vs t tt fk fv ds [] (wipeR ρ1 vs)).bind fun acc ρ2 => .ok (.dic acc, true) ρ2) Q) := wp_bind
end
end Nu
namespace Nu
open PySem PySem.Spec PyProof.Rows L2
variable [Nu.WorldI]
/-! ## what a dict comprehension comes to -/
abbrev DKD := D × NestedKey × D
def ThDf (vs : List Nat) (d v : D) (ρ : Rho) (N : Option DKD → Rho → Prop) : Option NestedKey → Prop
  | some k => N (some (d, k, v)) (wipeR ρ vs)
  | none => False
def ThDv (vs : List Nat) (a : D × Bool) (N : Option DKD → Rho → Prop) : R (D × Bool) → Prop
  | .ok b ρ => ThDf vs a.1 b.1 ρ N (keyF a)
  | _ => False
def ThDk (vs : List Nat) (fv : Rho → R (D × Bool)) (N : Option DKD → Rho → Prop) : R (D × Bool) → Prop
  | .ok a ρ => ThDv vs a N (fv ρ)
  | _ => False
def ThDt (vs : List Nat) (fk fv : Rho → R (D × Bool)) (N : Option DKD → Rho → Prop) : R Bool → Prop
  | .ok b ρ => if b = true then ThDk vs fv N (fk ρ) else N none (wipeR ρ vs)
  | _ => False
def ThDi (vs : List Nat) (tt : Rho → R Bool) (fk fv : Rho → R (D × Bool)) (N : Option DKD → Rho → Prop) : Option Rho → Prop
  | some ρ => ThDt vs fk fv N (tt ρ)
  | none => False
section
variable {vs : List Nat} {t : Tg} {tt : Rho → R Bool} {fk fv : Rho → R (D × Bool)} {ρ : Rho} {N : Option DKD → Rho → Prop}
@[simp] theorem keyF_ok {d : D} : keyF (d, false) = key8 d := rfl
@[simp ↓] theorem thdf_some {d v : D} {k : NestedKey} : wpO (some k) (ThDf vs d v ρ N) = Bx (N (some (d, k, v)) (wipeR ρ vs)) := (rfl)
@[simp ↓] theorem thdv_ok {a b : D × Bool} : wpR (.ok b ρ) (ThDv vs a N) = wpO (keyF a) (ThDf vs a.1 b.1 ρ N) := (rfl)
@[simp ↓] theorem thdk_ok {a : D × Bool} : wpR (.ok a ρ) (ThDk vs fv N) = wpR (fv ρ) (ThDv vs a N) := (rfl)
@[simp ↓] theorem thdt_ok {b : Bool} : wpR (.ok b ρ) (ThDt vs fk fv N) = if b = true then wpR (fk ρ) (ThDk vs fv N) else Bx (N none (wipeR ρ vs)) := by cases b <;> rfl
@[simp ↓] theorem thdi_some : wpO (some ρ) (ThDi vs tt fk fv N) = wpR (tt ρ) (ThDt vs fk fv N) := (rfl)
end
end Nu
namespace Nu
open PySem PySem.Spec PyProof.Rows L2
variable [WorldI]
section
variable {C : Cq} {Z Z' F F' H H' : Hp} {σ σ' : St} {ρ ρ' : Rho} {X : Cx} {K : PySem.W.Frag}
/-! ## reversed(range(n)) -/
def downD (n : Nat) : List D := (List.range n).map fun (i : Nat) => D.int ((n : Int) - 1 - (i : Int))
def revO : Opd → Option (List D)
  | .val (.int j) => if rOk j = true then some (downD j.toNat) else none
  | _ => none
def sItV (f : Rho → R Opd) (ρ : Rho) : R (List D) := (f ρ).bind fun o ρ1 => R.of (revO o) ρ1
end
section
variable {ρ : Rho} {QL : R (List D) → Prop}
@[simp ↓] theorem w_itV {f : Rho → R Opd} : wpR (sItV f ρ) QL = wpR (f ρ) (ThR (fun o ρ1 => R.of (revO o) ρ1) QL) := wp_bind
end
end Nu
namespace Nu
open PySem PySem.Spec PyProof.Rows L2
variable [WorldI]
section
variable {C : Cq} {Z Z' F F' H H' : Hp} {σ σ' : St} {ρ ρ' : Rho} {X : Cx} {K : PySem.W.Frag} {pins : List (Addr × Obj)} {s : Shared}
/-! ## try: .. except A as n: .. except B as n: .. -/
inductive HdsAs (X : Cx) (n : Str) : List ExceptHandler → List (Value × (Addr → Value → Option Addr → TS)) → Prop
  | nil : HdsAs X n [] []
  | cons {x : Str} {c : Addr} {ts : Addr → Value → Option Addr → TS} {b₀ : Stmt} {suite : List Stmt} {np pos' : Pos} {hds : List ExceptHandler} {l : List (Value × (Addr → Value → Option Addr → TS))} (hg : Gl X x) (hm : X.mg x = some (.ref c)) (hd : (x == ("__debug__" : Str)) = false)
      (hsu : ∀ (a : Addr) (oe : Obj) (cls : Value) (d : Option Addr) (pn : List (Addr × Obj)), L2N.Zn cls d oe → (∃ vs, oe.data = .fields vs) → PSs (X.suite a ((a, oe) :: pn)) (b₀ :: suite) (ts a cls d)) (r : HdsAs X n hds l) :
      HdsAs X n (.ExceptHandler (some (.Name x np)) (some n) (b₀ :: suite) pos' :: hds) ((.ref c, ts) :: l)
def gX (i j : Nat) (cs : List Str) (fld : Str) (lt : List Cp) (x : Xi) : Rho → Ss := sSet i (sTup (sCons (sOpd (sC (.str lt))) (sCons (sOpd (sFldX x cs fld j)) sNil)))
def exV (hl : List (Str × List Cp)) (fld : Str) (c : Str) (fs : List (Str × D)) : Option D := (hl.lookup c).bind fun lt => (fs.lookup fld).map fun d => .tup [.str lt, d]
def isFree : Option (Option (D × Kd)) → Bool
  | some none => true
  | _ => false
def setX (i j : Nat) (d : D) (ρ : Rho) : Ss := if isPin ρ[i]? = true then .err else if isFree ρ[j]? = true then .nx (ρ.set i (some (d, .sh))) else .err
def tryE (i j : Nat) (hl : List (Str × List Cp)) (fld : Str) : R (D × Bool) → Ss
  | .ok a ρ1 => if isPin ρ1[i]? = true then .err else .nx (ρ1.set i (some (a.1, kd a.2)))
  | .exc c fs ρ1 => (match exV hl fld c fs with
    | some d => setX i j d ρ1
    | none => .err)
  | .err => .err
def sTryX (i j : Nat) (hl : List (Str × List Cp)) (fld : Str) (f : Rho → R (D × Bool)) (ρ : Rho) : Ss := tryE i j hl fld (f ρ)
abbrev Cq.no (C : Cq) : Cq := ⟨C.K, C.P, fun _ _ _ _ => False⟩
inductive HdsX (C : Cq) (X : Cx) (i j : Nat) (n : Str) (cs : List Str) (fld : Str) : List ExceptHandler → List (Str × List Cp) → Prop
  | nil : HdsX C X i j n cs fld [] []
  | cons {c : Str} {lt : List Cp} {b₀ : Stmt} {suite : List Stmt} {np pos' : Pos} {hds : List ExceptHandler} {l : List (Str × List Cp)} (hg : Gl X c) (hm : X.mg c = some (.ref (He.ga X.K c))) (hd : (c == ("__debug__" : Str)) = false)
      (hsu : ∀ (x : Xi) (oe : Obj) (pn : List (Addr × Obj)), HotE (X.suite x.a ((x.a, oe) :: pn)) x → PSs (X.suite x.a ((x.a, oe) :: pn)) (b₀ :: suite) (tS C.no (gX i j cs fld lt x))) (r : HdsX C X i j n cs fld hds l) :
      HdsX C X i j n cs fld (.ExceptHandler (some (.Name c np)) (some n) (b₀ :: suite) pos' :: hds) ((c, lt) :: l)
def tsX (C : Cq) (X : Cx) (i j : Nat) (cs : List Str) (fld : Str) (lt : List Cp) (a : Addr) (cls : Value) (d : Option Addr) : TS := fun D σ H => ∃ x : Xi, a = x.a ∧ cls = .ref (He.ga X.K x.c) ∧ d = some x.dd ∧ tS C.no (gX i j cs fld lt x) D σ H
theorem HdsX.as {n : Str} {i j : Nat} {cs : List Str} {fld : Str} {hds : List ExceptHandler} {l : List (Str × List Cp)} (h : HdsX C X i j n cs fld hds l) : HdsAs X n hds (l.map fun p => (.ref (He.ga X.K p.1), tsX C X i j cs fld p.2)) := by
  induction h with
  | nil => exact .nil
  | cons hg hm hd hsu r ih =>
    refine .cons hg hm hd (fun a oe cls d pn zn hf => ⟨fun pins s σ H D I h => ?_⟩) ih
    obtain ⟨x, rfl, rfl, rfl, h⟩ := h
    exact (hsu x oe pn ⟨oe, List.mem_cons_self, zn.zc, hf⟩).run pins s σ H D I h
end
end Nu
namespace Nu
open PySem PySem.Spec PyProof.Rows L2
variable [WorldI]
section
variable {ρ : Rho} {QS : Ss → Prop} {i j : Nat} {hl : List (Str × List Cp)} {fld : Str}
def tryV (i j : Nat) (o : Option D) (ρ : Rho) : Ss := match o with
  | some d => setX i j d ρ
  | none => .err
def ThTx (i j : Nat) (hl : List (Str × List Cp)) (fld : Str) (Q : Ss → Prop) : R (D × Bool) → Prop := fun r => Q (tryE i j hl fld r)
@[simp ↓] theorem w_tryX {f : Rho → R (D × Bool)} : wpS (sTryX i j hl fld f ρ) QS = wpR (f ρ) (ThTx i j hl fld QS) := (rfl)
@[simp ↓] theorem thtx_ok {a : D × Bool} : wpR (.ok a ρ) (ThTx i j hl fld QS) = wpS (if isPin ρ[i]? = true then .err else .nx (ρ.set i (some (a.1, kd a.2)))) QS := (rfl)
@[simp ↓] theorem thtx_exc {c : Str} {fs : List (Str × D)} : wpR (.exc c fs ρ) (ThTx i j hl fld QS) = wpS (tryV i j (exV hl fld c fs) ρ) QS := (rfl)
@[simp] theorem tryV_some {d : D} : tryV i j (some d) ρ = setX i j d ρ := rfl
end
end Nu
namespace Nu
open PySem PySem.Spec PyProof.Rows L2
variable [WorldI]
end Nu
namespace Nu
open PySem PySem.Spec PyProof.Rows L2
variable [WorldI]
section
variable {C : Cq} {Z Z' F F' H H' : Hp} {σ σ' : St} {ρ ρ' : Rho} {X : Cx} {K : PySem.W.Frag} {pins : List (Addr × Obj)} {s : Shared}
/-! ## repr of tuples in which an empty dict may stand -/
mutual
def toPyT : D → Option PyData
  | .non => some .none
  | .bl b => some (.bool b)
  | .int i => some (.int i)
  | .str x => some (.str (toStr x))
  | .tup ds => (toPysT ds).map .tuple
  | .lst _ => none
  | .scr _ => none
  | .ty _ => none
  | .cls _ => none
  | .obj _ _ => none
  | .exc _ _ _ => none
  | .emp => some (.dict [])
  | .adr _ => none
  | .fix _ _ => none
  | .err _ _ => none
  | .dic _ => none
def toPysT : List D → Option (List PyData)
  | [] => some []
  | d :: r => (toPyT d).bind fun x => (toPysT r).map (x :: ·)
end
mutual
inductive De (K : PySem.W.Frag) (H : Hp) : V → PyData → Prop
  | non : De K H .non .none
  | bl (b : Bool) : De K H (.bl b) (.bool b)
  | int (i : Int) : De K H (.int i) (.int i)
  | str (x : Str) : De K H (.str x) (.str x)
  | tup {a : Addr} {xs : List V} {ds : List PyData} : SqT K H a xs → DeAll K H xs ds → De K H (.ref a) (.tuple ds)
  | emp {a : Addr} : H a = some (.dK []) → De K H (.ref a) (.dict [])
inductive DeAll (K : PySem.W.Frag) (H : Hp) : List V → List PyData → Prop
  | nil : DeAll K H [] []
  | cons {v : V} {vs : List V} {d : PyData} {ds : List PyData} : De K H v d → DeAll K H vs ds → DeAll K H (v :: vs) (d :: ds)
end
mutual
theorem Rel.de (l : Le F H) : ∀ {v : V} {d : D} {p : PyData}, Rel K F v d → toPyT d = some p → De K H v p
  | _, _, _, .non, e => by unfold toPyT at e; cases e; exact .non
  | _, _, _, .bl b, e => by unfold toPyT at e; cases e; exact .bl b
  | _, _, _, .int i, e => by unfold toPyT at e; cases e; exact .int i
  | _, _, _, .str x, e => by unfold toPyT at e; cases e; exact .str _
  | _, _, _, .ty n, e => by unfold toPyT at e; cases e
  | _, _, _, .cls n, e => by unfold toPyT at e; cases e
  | _, _, _, .tup h r, e => by
    unfold toPyT at e
    obtain ⟨q, e1, e2⟩ := Option.map_eq_some_iff.mp e
    subst e2
    exact .tup (sqT_h l h) (Rels.de l r e1)
  | _, _, _, .lst h r, e => by unfold toPyT at e; cases e
  | _, _, _, .scr h r, e => by unfold toPyT at e; cases e
  | _, _, _, .obj _ _, e => by unfold toPyT at e; cases e
  | _, _, _, .exc _ _, e => by unfold toPyT at e; cases e
  | _, _, _, .emp h, e => by unfold toPyT at e; cases e; exact .emp (l _ _ h)
  | _, _, _, .adr, e => by unfold toPyT at e; cases e
  | _, _, _, .fix _, e => by unfold toPyT at e; cases e
  | _, _, _, .err _ _ _, e => by unfold toPyT at e; cases e
  | _, _, _, .err0 _, e => by unfold toPyT at e; cases e
  | _, _, _, .dic _ _ _ _, e => by unfold toPyT at e; cases e
theorem Rels.de (l : Le F H) : ∀ {v : List V} {d : List D} {p : List PyData}, Rels K F v d → toPysT d = some p → DeAll K H v p
  | _, _, _, .nil, e => by unfold toPysT at e; cases e; exact .nil
  | _, _, _, .cons h r, e => by
    unfold toPysT at e
    obtain ⟨q, e1, e2⟩ := Option.bind_eq_some_iff.mp e
    obtain ⟨q2, e3, e4⟩ := Option.map_eq_some_iff.mp e2
    subst e4
    exact .cons (Rel.de l h e1) (Rels.de l r e3)
end
mutual
theorem De.reads (I : Inv X pins σ H s) : ∀ {v : V} {d : PyData} {u : Value}, De X.K H v d → RelV v u → ∃ as, Reads s.heap u d as ∧ sysModules ∉ as
  | _, _, _, .non, r => by cases r; exact ⟨_, Reads.none, by simp⟩
  | _, _, _, .bl b, r => by cases r; exact ⟨_, Reads.bool b, by simp⟩
  | _, _, _, .int i, r => by obtain ⟨t, rfl⟩ := r; exact ⟨_, Reads.int i t, by simp⟩
  | _, _, _, .str x, r => by obtain ⟨t, rfl⟩ := r; exact ⟨_, Reads.str x t, by simp⟩
  | _, _, _, .tup hs ha, r => by
    cases r
    obtain ⟨its, rv, ⟨o, ho, hc, n, hd⟩, _⟩ := I.tuple hs
    obtain ⟨as, hr, hn⟩ := De.readsAll I ha rv
    exact ⟨_, Reads.tuple ho hc hd (by simpa using hr), hn⟩
  | _, _, _, .emp (a := a) ha, r => by
    cases r
    obtain ⟨_, ns, vs, kv, o, es, ep, ho, hd, he, _, hes, _⟩ := I.hok a _ ha
    have ev : vs = [] := by cases kv; rfl
    subst ev
    have ee : es.toList = [] := by
      cases z : es.toList with
      | nil => rfl
      | cons _ _ => rw [z] at hes; cases hes
    have rd : Reads s.heap (.ref a) (.dict []) (a :: [] ++ []) := .dict ho hd.1 he (by rw [ee]; exact .nil) (by rw [ee]; exact .nil)
    refine ⟨_, rd, fun hm => ?_⟩
    have : sysModules = a := by simpa using hm
    rw [← this] at ns
    simp at ns
theorem De.readsAll (I : Inv X pins σ H s) : ∀ {vs : List V} {ds : List PyData} {us : List Value}, DeAll X.K H vs ds → Vals vs us → ∃ as, ReadsAll s.heap us ds as ∧ sysModules ∉ as
  | _, _, _, .nil, r => by cases r; exact ⟨_, ReadsAll.nil, by simp⟩
  | _, _, _, .cons h1 h2, r => by
    cases r with
    | cons r1 r2 =>
      obtain ⟨as, q1, n1⟩ := De.reads I h1 r1
      obtain ⟨bs, q2, n2⟩ := De.readsAll I h2 r2
      exact ⟨_, ReadsAll.cons q1 q2, by simp [n1, n2]⟩
end
def fitT (p : PyData) : Bool := p.showable && decide (p.depth ≤ 60) && decide (p.shown.length ≤ sizeLine) && cpsOk p.shown
end
end Nu
/-! a tuple beside the empty one -/
namespace GQ
open PySem PySem.SeqAt
open AutoSeq1 (wpAny_loadPart')
open MeetsSeq MeetsSeq2 MeetsSeq3 SeqRoads2
section
variable {prog : Program} {w : World} {A : Around} {R : Result → Shared → Prop}
end
section
variable {prog : Program} {w : World} {A : Around} {E : Value → Shared → Prop} {s : Shared}
end
end GQ
namespace Nu
open PySem PySem.Spec PyProof.Rows L2
variable [WorldI]
section
variable {C : Cq} {Z Z' F F' H H' : Hp} {σ σ' : St} {ρ ρ' : Rho} {X : Cx} {K : PySem.W.Frag}
end
end Nu
namespace Nu
open PySem PySem.Spec PyProof.Rows L2
variable [WorldI]
/-! ## data that repr takes, with longer numbers and empty dicts -/
mutual
def okP : Nat → PyData → Bool
  | _, .none => true
  | _, .bool _ => true
  | _, .int i => decide (i.natAbs < 10 ^ 31)
  | _, .str x => PyData.strOk x
  | _, .dict [] => true
  | _, .dict (_ :: _) => false
  | 0, .list _ => false
  | 0, .tuple _ => false
  | n + 1, .list xs => okPs n xs
  | n + 1, .tuple xs => okPs n xs
def okPs : Nat → List PyData → Bool
  | _, [] => true
  | n, p :: ps => okP n p && okPs n ps
end
theorem log_small2 {i : Int} (h : i.natAbs < 10 ^ 31) : i.natAbs.log2 < 1920 := by
  by_cases h0 : i.natAbs = 0
  · rw [h0]; decide
  · have := (Nat.log2_lt h0 (k := 1920)).mpr (Nat.lt_trans h (by decide +kernel))
    exact this
mutual
theorem okP_good : ∀ (n : Nat) (p : PyData), okP n p = true → p.leavesShort 40 = true ∧ p.showable = true ∧ p.depth ≤ n + 1 ∧ cpsOk p.shown = true
  | n, .none, _ => ⟨by simp [PyData.leavesShort], by simp [PyData.showable], by simp [PyData.depth], cpsOk_shown _ (by simp [PyData.canLay0])⟩
  | n, .bool b, _ => ⟨by simp [PyData.leavesShort], by simp [PyData.showable], by simp [PyData.depth], cpsOk_shown _ (by simp [PyData.canLay0])⟩
  | n, .int i, h => by
    have hb : i.natAbs < 10 ^ 31 := by simpa [okP] using h
    refine ⟨?_, by simp only [PyData.showable]; exact decide_eq_true (log_small2 hb), by simp [PyData.depth], cpsOk_shown _ (by simp [PyData.canLay0])⟩
    simp only [PyData.leavesShort]
    refine decide_eq_true ?_
    have e := int_text_length_le10 (k := 31) (by decide) hb
    show (Str.ofString (toString i)).length ≤ 40
    rw [PySem.ofString_length]
    omega
  | n, .str x, h => by
    have hx : PyData.strOk x = true := by simpa [okP] using h
    have hc : PyData.canLay0 (.str x) = true := by simpa [PyData.canLay0] using hx
    refine ⟨PyData.leavesShort_of_canLay0 40 _ hc (by simp [PyData.intsShort]), by simp [PyData.showable], by simp [PyData.depth], cpsOk_shown _ hc⟩
  | n, .dict [], _ => ⟨by simp [PyData.leavesShort, PyData.leavesShortKv], by simp [PyData.showable, PyData.showableKv], by simp [PyData.depth, PyData.depthKv], cpsOk_of "{}"⟩
  | n, .dict (_ :: _), h => by simp [okP] at h
  | 0, .list _, h => by simp [okP] at h
  | 0, .tuple _, h => by simp [okP] at h
  | n + 1, .list xs, h => by
    obtain ⟨h1, h2, h3, h4⟩ := okPs_good n xs (by simpa [okP] using h)
    refine ⟨by simpa [PyData.leavesShort] using h1, by simpa [PyData.showable] using h2, by simp [PyData.depth]; omega, ?_⟩
    rw [PyData.shown_list]
    exact cpsOk_app (cpsOk_app (cpsOk_of _) (cpsOk_join (cpsOk_of _) _ h4)) (cpsOk_of _)
  | n + 1, .tuple xs, h => by
    obtain ⟨h1, h2, h3, h4⟩ := okPs_good n xs (by simpa [okP] using h)
    refine ⟨by simpa [PyData.leavesShort] using h1, by simpa [PyData.showable] using h2, by simp [PyData.depth]; omega, ?_⟩
    rw [PyData.shown_tuple]
    exact cpsOk_app (cpsOk_app (cpsOk_of _) (cpsOk_join (cpsOk_of _) _ h4)) (cpsOk_of _)
theorem okPs_good : ∀ (n : Nat) (ps : List PyData), okPs n ps = true → PyData.leavesShortAll 40 ps = true ∧ PyData.showableAll ps = true ∧ PyData.depthAll ps ≤ n + 1 ∧ ∀ t ∈ PyData.shownAll ps, cpsOk t = true
  | n, [], _ => ⟨by simp [PyData.leavesShortAll], by simp [PyData.showableAll], by simp [PyData.depthAll], by simp [PyData.shownAll]⟩
  | n, p :: ps, h => by
    have h' : okP n p = true ∧ okPs n ps = true := by simpa [okPs] using h
    obtain ⟨a1, a2, a3, a4⟩ := okP_good n p h'.1
    obtain ⟨b1, b2, b3, b4⟩ := okPs_good n ps h'.2
    refine ⟨by simp [PyData.leavesShortAll, a1, b1], by simp [PyData.showableAll, a2, b2], by simp [PyData.depthAll]; omega, fun t ht => ?_⟩
    rw [PyData.shownAll_cons] at ht
    rcases List.mem_cons.mp ht with rfl | ht
    · exact a4
    · exact b4 t ht
end
end Nu
namespace Nu
open PySem PySem.Spec PyProof.Rows L2
variable [WorldI]
/-! ## exceptions with two fields -/
section
open Builtin Builtin.ObjectAttr
variable {K : PySem.W.Frag} {prog : Program} {w : World} {A : Around} {R : Result → Shared → Prop} {hp : Heap} {g : Array GenState} {d : Drawn} {t : Nat} {os : OsState}
theorem osa_more {nid : String} {tl : List Value} {name : Str} {tk : Tok} {v : Value} {x C dx : Addr} {fv : Array Value} {cd : ClassData} {m0 : Str → Option Value} {nl : List Str} (T : BaseT nid tl)
    (X : K.In hp) (hx : hp.get? x = some { cls := .ref C, dict := some dx, data := .fields fv }) (hns : hp.Ns1 dx m0) (hw : Within m0 nl) (hz : nl.length ≤ 1000) (hcd : PySem.W.clsIn K C = some cd) (hm : upTo tl cd.mro = true) (hh : cd.hasDict = true)
    (ha : PySem.W.findIn K (.ref C) name = some none)
    (hq : ∀ h' tk', (∀ b o, b ≠ dx → hp.get? b = some o → h'.get? b = some o) → h'.Ns1 dx (fun y => if y = name then some v else m0 y) → R (.ok (.ret .none)) ⟨h', g, d, tk', os⟩) :
    codeAny (model prog w) A (.call (.builtin "object.__setattr__") ⟨[.ref x, .str name tk, v], []⟩) R ⟨hp, g, d, t, os⟩ := by
  obtain ⟨oD, esD, epD, hoD, hdD, _⟩ := hns.count hw
  have I : PySem.W.InstAt hp x { cls := .ref C, dict := some dx, data := .fields fv } C (some oD) := ⟨hx, rfl, rfl, hoD⟩
  have SF := F.store_object
  have hob : cd.mro.contains (.type "object") = true := (upTo_has "object" _ hm).trans T.ob
  have ne : ¬ (cd.mro.isEmpty = true) := fun z => by
    rw [List.isEmpty_iff.mp z] at hob
    cases hob
  have sub : PySem.W.Looks (model prog w) hp (isInstance (.ref x) (.type "object")) true := I.type.andThen (PySem.W.looks_mroIn X (by unfold PySem.W.mroIn; rw [hcd, Option.bind_some, if_neg ne, hob]))
  refine codeAny_call_builtin SF.slot.plain SF.entry (@PySem.W.check_slot (model prog w) _ _ ⟨hp, g, d, t, os⟩ "object.__setattr__" "object" "__setattr__" (.ref x) [.str name tk, v] [] _ SF.kind SF.split sub (SF.args (.ref x) (.str name tk) v) ?_)
  have hmr : PySem.W.Looks (model prog w) hp (mroOf (.ref C)) cd.mro := (PySem.W.looks_clsIn X hcd).andThen .now
  have L3 : PySem.W.Looks (model prog w) hp (storeTaker? none) none := .now
  have hcls : PySem.W.Looks (model prog w) hp (classData C) cd := PySem.W.looks_clsIn X hcd
  rw [PySem.W.osa_eq, refuse_eq]
  refine wpAny_bind (wpAny_bind (I.type.at (wpAny_bind (hmr.at ?_))))
  rw [upTo_pass T _ _ hm]
  refine wpAny_pure (wpAny_bind (I.type.at (wpAny_bind ((PySem.W.looks_findIn X ha).at (wpAny_bind (L3.at ?_))))))
  show wpAny _ _ (storeInOwnDict (.ref x) (.ref C) (.str name tk) name v false) _ _ _
  obtain ⟨nm, bs, mro, ns, qn, hd, sn, sb, ab, col, del⟩ := cd
  dsimp only at hh
  subst hh
  unfold storeInOwnDict ownDictForStores
  repeat (first | with_reducible refine PySem.OEX.store_in_old hns hw hz ?_ | with_reducible refine wpAny_loadPart_at hx ?_ | with_reducible refine hcls.at ?_ | wp_step)
  intro h' tk' hn' hs
  exact hq h' tk' (fun b o hb ho => (hs.2 b hb).trans ho) hn'
end
section
variable {C : Cq} {pins : List (Addr × Obj)} {s : Shared} {Z Z' F F' H H' : Hp} {σ σ' : St} {ρ ρ' : Rho} {X : Cx} {K : PySem.W.Frag}
theorem ost_more {a D dx : Addr} {f : Str} {y : V} {u : Value} {fs : List (Str × V)} {Q : Unit → Shared → Prop} {E : Value → Shared → Prop} {A : Around} (T : OexG X.K D) (I : Inv X pins σ H s) (e : H a = some (exo a D (some dx))) (ed : H dx = some (exd dx fs)) (hl : fs.length ≤ 900)
    (own : PySem.W.findIn X.K (.ref D) f = some none) (ry : RelV y u) (h : ∀ s', Inv X pins σ (upd H dx (exd dx ((f, y) :: fs))) s' → Q () s') : wpAny (model X.prog X.w) A (setAttr (.ref a) f u) Q E s := by
  obtain ⟨nm, q, N, bs, bm, sn, sub, ab, col, dd, k0, k1, k2, k3, k5, nid, tl, hC, hm, hB⟩ := T.cls
  obtain ⟨cd, hcl, hmro, hdic⟩ : ∃ cd, PySem.W.clsIn X.K D = some cd ∧ cd.mro = .ref D :: bm ∧ cd.hasDict = true := by
    unfold PySem.W.clsIn
    rw [hC]
    exact ⟨_, rfl, rfl, rfl⟩
  obtain ⟨t1, ho⟩ := exo_at I.hok e
  obtain ⟨mA, hns, rel⟩ := exd_at I.hok ed
  have hw := within_of rel
  obtain ⟨hp, g, d, t, os⟩ := s
  obtain ⟨oD, _, _, hoD, _, _⟩ := hns.count hw
  refine PySem.W.set_plain I.kIn (ox := { cls := .ref D, dict := some dx, data := .fields #[.ref t1, .none, .none, .none, .bool false, .none] }) (od := some oD) ⟨ho, rfl, rfl, hoD⟩ T.sa ?_
  refine osa_more hB I.kIn ho hns hw (by rw [List.length_map]; omega) hcl (by rw [hmro]; exact hm) hdic own (fun h' tk' k hn => ?_)
  have hd : ∃ o, h'.get? dx = some o := by
    obtain ⟨o, _, _, e', _⟩ := hn
    exact ⟨o, e'⟩
  exact h _ (I.write (t' := tk') (x := dx) (e := dx) (o := exd dx ((f, y) :: fs)) (by rw [ed]; exact True.intro) (.inl rfl) k hd (exd_ok hn (relO_put ry rel)))
def tSnd (K : PySem.W.Frag) (f : Str) (to te : TE) : TS := fun D σ H => te σ H fun y H1 => to σ H1 fun x H2 => ∃ (a C dx : Addr) (fs : List (Str × V)), x = .ref a ∧ OexG K C ∧ PySem.W.findIn K (.ref C) f = some none ∧
  H2 a = some (exo a C (some dx)) ∧ H2 dx = some (exd dx fs) ∧ fs.length ≤ 900 ∧ D.nx σ (upd H2 dx (exd dx ((f, y) :: fs)))
theorem ps_snd {o e : Expr} {to te : TE} {f : Str} {p' pos : Pos} (ho : PE X o to) (he : PE X e te) (hs : swapsWith e (some (.Attribute o f p')) pos.line X.env = pure false := by rfl) : PS X (.Assign [.Attribute o f p'] e pos) (tSnd X.K f to te) := by
  refine ⟨fun pins s σ H D I h => plainObj_wpAny_Assign_Attribute (thn (he.run pins s σ H _ I h) fun v s1 ⟨y, H1, I1, r1, q1⟩ => thn (ho.run pins s1 σ H1 _ I1 q1) fun u s2 ⟨x, H2, I2, r2, a, C, dx, fs, ex, T, own, ea, ed, hl, q⟩ => ?_) hs⟩
  subst ex
  obtain rfl : u = Value.ref a := r2
  exact ost_more T I2 ea ed hl own r1 fun s' J => ⟨σ, _, J, q⟩
theorem init2 {Pg : Program} {w : World} {mg : Str → Option Value} {base : Heap} {c : Str} {qual f f2 se v v2 : Str} {params : Arguments} {scope : Scope} {fi : Addr} {fd : FuncData} {N : List Str} {j : Nat} {p1 p2 p3 p4 p5 p6 p7 p8 : Pos} (M : ExM K c)
    (Fd : FunD K "__init__" qual params [.Assign [.Attribute (.Name se p1) f p2] (.Name v p3) p4, .Assign [.Attribute (.Name se p5) f2 p6] (.Name v2 p7) p8] scope [] [] fi fd) (S : FnScope N [se, v, v2] scope) (h0 : N[0]? = some se) (h1 : N[1]? = some v) (h2 : N[2]? = some v2) (v0 : Vis scope se) (v1 : Vis scope v) (v2' : Vis scope v2)
    (hno : PySem.W.findIn K (.ref (He.ga K c)) f = some none) (hno2 : PySem.W.findIn K (.ref (He.ga K c)) f2 = some none)
    (hs : (se == ("__debug__" : Str)) = false := by decide) (hs2 : (se == ("__classdict__" : Str)) = false := by decide) (hv : (v == ("__debug__" : Str)) = false := by decide) (hv2 : (v == ("__classdict__" : Str)) = false := by decide) (hw : (v2 == ("__debug__" : Str)) = false := by decide) (hw2 : (v2 == ("__classdict__" : Str)) = false := by decide) :
    FnOk Pg w K mg base (L2N.CX Pg w) (j + 1) fi fd [se, v, v2] (spX (He.ga K c) [f, f2]) := by
  refine FnOk.text Fd S (fun vs H Q E h => ?_) fun cd A outer s H vs Q E hr h => ⟨tSeq (tFst K f (tVar 0) (tVar 1)) (tSnd K f2 (tVar 0) (tVar 2)), pss_cons (ps_fst (X := cxOf (L2N.CX Pg w) Pg w K mg base N qual scope fi cd A outer s H E) (pe_var h0 v0 hs hs2) (pe_var h1 v1 hv hv2)) (pss_one (ps_snd (X := cxOf (L2N.CX Pg w) Pg w K mg base N qual scope fi cd A outer s H E) (pe_var h0 v0 hs hs2) (pe_var h2 v2' hw hw2))), ?_⟩
  · obtain ⟨a, ys, rfl, hl, _⟩ := h
    simp [hl]
  · obtain ⟨a, ys, rfl, hl, ha, q⟩ := h
    match ys, hl with
    | [y, y2], _ =>
      refine ⟨y, rfl, .ref a, rfl, a, He.ga K c, rfl, M.T, hno, ha, fun dx n ne => ?_⟩
      refine ⟨y2, rfl, .ref a, rfl, a, He.ga K c, dx, [(f, y)], rfl, M.T, hno2, upd_same, by rw [upd_ne ne, upd_same], by simp, ?_⟩
      have e : upd (upd (upd H dx (exd dx [(f, y)])) a (exo a (He.ga K c) (some dx))) dx (exd dx [(f2, y2), (f, y)]) = upd (upd H dx (exd dx ([f, f2].zip [y, y2]).reverse)) a (exo a (He.ga K c) (some dx)) := by
        funext b
        by_cases hb : b = dx
        · subst hb; rw [upd_same, upd_ne ne, upd_same]; rfl
        · rw [upd_ne hb]
          by_cases h3 : b = a
          · subst h3; rw [upd_same, upd_same]
          · rw [upd_ne h3, upd_ne h3, upd_ne hb, upd_ne hb]
      have q2 := q dx n ne
      rw [← e] at q2
      exact q2
end
end Nu
namespace Nu
open PySem PySem.Spec PyProof.Rows L2
variable [WorldI]
end Nu
/-! name = {k: v for ..} on one line -/
namespace NuD
open PySem PySem.Spec L2
open PyProof.Rows hiding St
variable [Nu.WorldI]
section
variable {X : Cx}
end
end NuD
namespace Nu
open PySem PySem.Spec PyProof.Rows L2
variable [Nu.WorldI]
section
variable {C : Cq} {X : Cx}
end
end Nu
namespace Nu
open PySem PySem.Spec PyProof.Rows L2
variable [WorldI]
/-! ## < and <= of alike data -/
section
variable {X : Cx} {K : PySem.W.Frag}
end
end Nu
namespace Nu
open PySem PySem.Spec PyProof.Rows L2
variable [WorldI]
/-! ## list(d): the keys of a dict -/
section
variable {C : Cq} {Z Z' F F' H H' : Hp} {σ σ' : St} {ρ ρ' : Rho} {X : Cx} {K : PySem.W.Frag}
def gListK : List D → Option (D × Bool)
  | [.dic es] => if es.length ≤ sizeLine then some (.lst (keysD es), true) else none
  | _ => none
theorem RelD.keys : ∀ {L : Ents} {es : List (D × D)}, RelD K F L es → ∃ zs, Vals zs (L.map (·.2.1)) ∧ Rels K F zs (keysD es)
  | _, _, .nil => ⟨[], .nil, .nil⟩
  | _, _, .cons k u h z g r => by
    obtain ⟨zs, h1, h2⟩ := RelD.keys r
    exact ⟨_ :: zs, .cons u h1, .cons h h2⟩
end
@[simp] theorem gListK_d {es : List (D × D)} : gListK [.dic es] = if es.length ≤ sizeLine then some (.lst (keysD es), true) else none := rfl
end Nu
namespace Nu
open PySem PySem.Spec PyProof.Rows L2
variable [WorldI]
section
variable {C : Cq} {Z Z' F F' H H' : Hp} {σ σ' : St} {ρ ρ' : Rho} {X : Cx}
/-! ## xs[i], xs[j] = a pair -/
def sAsgXX (i : Nat) (fi fj : Rho → R (D × Bool)) (f : Rho → R Opd) (ρ : Rho) : Ss := Rx (f ρ) fun o ρ1 => match o with
  | .val (.tup [d, e]) => if isLst ρ1[i]? = true then Rx (fi ρ1) fun b ρ2 => optS (setIx i b.1 d ρ2) fun ρ3 =>
      if isLst ρ3[i]? = true then Rx (fj ρ3) fun c ρ4 => optS (setIx i c.1 e ρ4) fun ρ5 => .nx ρ5 else .err
    else .err
  | _ => .err
end
section
variable {ρ : Rho} {Q : Ss → Prop}
@[simp ↓] theorem w_asgXX {i : Nat} {fi fj : Rho → R (D × Bool)} {f : Rho → R Opd} : wpS (sAsgXX i fi fj f ρ) Q = wpR (f ρ) (ThX (fun o ρ1 => match o with
  | .val (.tup [d, e]) => if isLst ρ1[i]? = true then Rx (fi ρ1) fun b ρ2 => optS (setIx i b.1 d ρ2) fun ρ3 =>
      if isLst ρ3[i]? = true then Rx (fj ρ3) fun c ρ4 => optS (setIx i c.1 e ρ4) fun ρ5 => .nx ρ5 else .err
    else .err
  | _ => .err) Q) := by
  rw [← wp_rx]; rfl
end
end Nu
namespace Nu
open PySem PySem.Spec PyProof.Rows L2
variable [WorldI]
section
variable {C : Cq} {Z Z' F F' H H' : Hp} {σ σ' : St} {ρ ρ' : Rho} {X : Cx} {K : PySem.W.Frag} {pins : List (Addr × Obj)} {s : Shared}
/-! ## try: .. except A: .., without a name -/
def catN (cs : List Str) (g : Rho → Ss) : Ss → Ss
  | .exc c _ ρ1 => if c ∈ cs then thruS (g ρ1) else .err
  | r => r
def sTryN (cs : List Str) (f g : Rho → Ss) (ρ : Rho) : Ss := catN cs g (f ρ)
end
section
variable {ρ : Rho} {QS : Ss → Prop} {cs : List Str} {f g : Rho → Ss}
def ThTn (cs : List Str) (g : Rho → Ss) (Q : Ss → Prop) : Ss → Prop := fun r => Q (catN cs g r)
@[simp ↓] theorem w_tryN : wpS (sTryN cs f g ρ) QS = wpS (f ρ) (ThTn cs g QS) := (rfl)
@[simp ↓] theorem thtn_nx : wpS (.nx ρ) (ThTn cs g QS) = wpS (.nx ρ) QS := (rfl)
@[simp ↓] theorem thtn_ct : wpS (.ct ρ) (ThTn cs g QS) = wpS (.ct ρ) QS := (rfl)
@[simp ↓] theorem thtn_bk : wpS (.bk ρ) (ThTn cs g QS) = wpS (.bk ρ) QS := (rfl)
@[simp ↓] theorem thtn_rt {d : D} {fr : Bool} : wpS (.rt d fr ρ) (ThTn cs g QS) = wpS (.rt d fr ρ) QS := (rfl)
@[simp ↓] theorem thtn_exc {c : Str} {fs : List (Str × D)} : wpS (.exc c fs ρ) (ThTn cs g QS) = wpS (if c ∈ cs then thruS (g ρ) else .err) QS := (rfl)
@[simp ↓] theorem wps_thru {r : Ss} : wpS (thruS r) QS = wpS r (ThTy QS) := (rfl)
end
end Nu
namespace Nu
open PySem PySem.Spec PyProof.Rows L2
variable [WorldI]
section
variable {C : Cq} {Z Z' F F' H H' : Hp} {σ σ' : St} {ρ ρ' : Rho} {X : Cx} {K : PySem.W.Frag} {pins : List (Addr × Obj)} {s : Shared}
/-! ## text.replace(sign, sign): a token is out before -/
theorem PST.imp {st : Stmt} {t t' : TS} (h : PST X st t) (w : ∀ D σ H, t' D σ H → t D σ H) : PST X st t' := fun pins s σ H D h0 I z => h pins s σ H D h0 I (w D σ H z)
theorem PSsT.imp {st : List Stmt} {t t' : TS} (h : PSsT X st t) (w : ∀ D σ H, t' D σ H → t D σ H) : PSsT X st t' := fun pins s σ H D h0 I z => h pins s σ H D h0 I (w D σ H z)
theorem PET.imp {e : Expr} {t t' : TE} (h : PET X e t) (w : ∀ σ H Q, t' σ H Q → t σ H Q) : PET X e t' := fun pins s σ H Q h0 I z => h pins s σ H Q h0 I (w σ H Q z)
theorem PAT.imp {es : List Expr} {t t' : TA} (h : PAT X es t) (w : ∀ σ H Q, t' σ H Q → t σ H Q) : PAT X es t' := fun pos pins s σ H Q h0 I z => h pos pins s σ H Q h0 I (w σ H Q z)
def repD (c d : Cp) (x : List Cp) : List Cp := x.map fun a => if a = c then d else a
def strAt (ρ : Rho) (i : Nat) : Option (List Cp) := match ρ[i]? with
  | some (some (.str x, .sh)) => some x
  | _ => none
def pickC (x : List Cp) : D → Option Cp
  | .int i => L2.atI x i
  | _ => none
def replE (x : List Cp) (c d : Cp) (ρ : Rho) : R (D × Bool) := if c ≠ d then .ok (.str (repD c d x), false) ρ else .err
def repl2 (x : List Cp) (c : Cp) (ρ : Rho) : Option Cp → R (D × Bool)
  | some d => replE x c d ρ
  | none => .err
def repl1 (x : List Cp) (f2 : Rho → R Opd) (ρ : Rho) : Option Cp → R (D × Bool)
  | some c => (f2 ρ).bind fun o2 ρ2 => repl2 x c ρ2 ((peek ρ2 o2).bind (pickC x))
  | none => .err
def repl0 (f1 f2 : Rho → R Opd) (ρ : Rho) : Option (List Cp) → R (D × Bool)
  | some x => if x.length ≤ 1000 then (f1 ρ).bind fun o1 ρ1 => repl1 x f2 ρ1 ((peek ρ1 o1).bind (pickC x)) else .err
  | none => .err
def sRepl (i : Nat) (f1 f2 : Rho → R Opd) (ρ : Rho) : R (D × Bool) := repl0 f1 f2 ρ (strAt ρ i)
end
section
variable {ρ : Rho} {QE : R (D × Bool) → Prop}
@[simp ↓] theorem w_repl {i : Nat} {f1 f2 : Rho → R Opd} : wpR (sRepl i f1 f2 ρ) QE = wpR (repl0 f1 f2 ρ (strAt ρ i)) QE := rfl
@[simp ↓] theorem w_repl0 {x : List Cp} {f1 f2 : Rho → R Opd} (h : x.length ≤ 1000) : wpR (repl0 f1 f2 ρ (some x)) QE = wpR (f1 ρ) (ThR (fun o1 ρ1 => repl1 x f2 ρ1 ((peek ρ1 o1).bind (pickC x))) QE) := by
  have e : repl0 f1 f2 ρ (some x) = (f1 ρ).bind fun o1 ρ1 => repl1 x f2 ρ1 ((peek ρ1 o1).bind (pickC x)) := if_pos h
  rw [e]
  exact wp_bind
@[simp ↓] theorem w_repl1 {x : List Cp} {f2 : Rho → R Opd} {c : Cp} : wpR (repl1 x f2 ρ (some c)) QE = wpR (f2 ρ) (ThR (fun o2 ρ2 => repl2 x c ρ2 ((peek ρ2 o2).bind (pickC x))) QE) := wp_bind
@[simp ↓] theorem w_repl2 {x : List Cp} {c d : Cp} (h : c ≠ d) : wpR (repl2 x c ρ (some d)) QE = wpR (.ok (.str (repD c d x), false) ρ) QE := by
  have e : repl2 x c ρ (some d) = .ok (.str (repD c d x), false) ρ := if_pos h
  rw [e]
@[simp] theorem pickC_int {x : List Cp} {k : Int} : pickC x (.int k) = L2.atI x k := rfl
end
end Nu
namespace L2
open PySem PySem.Spec PyProof.Rows
/-! ## range(a, b), however great -/
section
variable {X : Cx} {tg : Expr}
end
end L2
namespace Nu
open PySem PySem.Spec PyProof.Rows L2
variable [WorldI]
section
variable {C : Cq} {Z Z' F F' H H' : Hp} {σ σ' : St} {ρ ρ' : Rho} {X : Cx} {K : PySem.W.Frag} {pins : List (Addr × Obj)} {s : Shared}
def rng2L : List Opd → Option (List D)
  | [.val (.int i), .val (.int j)] => some (intsD i (j - i).toNat)
  | _ => none
@[simp] theorem rng2L_i {i j : Int} : rng2L [.val (.int i), .val (.int j)] = some (intsD i (j - i).toNat) := rfl
end
end Nu
namespace Nu
open PySem PySem.Spec PyProof.Rows L2
variable [WorldI]
section
variable {C : Cq} {Z Z' F F' H H' : Hp} {σ σ' : St} {ρ ρ' : Rho} {X : Cx} {K : PySem.W.Frag} {pins : List (Addr × Obj)} {s : Shared}
def gY (i j : Nat) (c : Str) (lf : List Cp × Str) (x : Xi) : Rho → Ss := sSet i (sTup (sCons (sOpd (sC (.str lf.1))) (sCons (sOpd (sFldX x [c] lf.2 j)) sNil)))
def exY (hl : List (Str × (List Cp × Str))) (c : Str) (fs : List (Str × D)) : Option D := (hl.lookup c).bind fun lf => (fs.lookup lf.2).map fun d => .tup [.str lf.1, d]
def tryY (i j : Nat) (hl : List (Str × (List Cp × Str))) : R (D × Bool) → Ss
  | .ok a ρ1 => if isPin ρ1[i]? = true then .err else .nx (ρ1.set i (some (a.1, kd a.2)))
  | .exc c fs ρ1 => (match exY hl c fs with
    | some d => setX i j d ρ1
    | none => .err)
  | .err => .err
def sTryY (i j : Nat) (hl : List (Str × (List Cp × Str))) (f : Rho → R (D × Bool)) (ρ : Rho) : Ss := tryY i j hl (f ρ)
inductive HdsY (C : Cq) (X : Cx) (i j : Nat) (n : Str) : List ExceptHandler → List (Str × (List Cp × Str)) → Prop
  | nil : HdsY C X i j n [] []
  | cons {c : Str} {lf : List Cp × Str} {b₀ : Stmt} {suite : List Stmt} {np pos' : Pos} {hds : List ExceptHandler} {l : List (Str × (List Cp × Str))} (hg : Gl X c) (hm : X.mg c = some (.ref (He.ga X.K c))) (hd : (c == ("__debug__" : Str)) = false)
      (hsu : ∀ (x : Xi) (oe : Obj) (pn : List (Addr × Obj)), HotE (X.suite x.a ((x.a, oe) :: pn)) x → PSs (X.suite x.a ((x.a, oe) :: pn)) (b₀ :: suite) (tS C.no (gY i j c lf x))) (r : HdsY C X i j n hds l) :
      HdsY C X i j n (.ExceptHandler (some (.Name c np)) (some n) (b₀ :: suite) pos' :: hds) ((c, lf) :: l)
def tsY (C : Cq) (X : Cx) (i j : Nat) (c : Str) (lf : List Cp × Str) (a : Addr) (cls : Value) (d : Option Addr) : TS := fun D σ H => ∃ x : Xi, a = x.a ∧ cls = .ref (He.ga X.K x.c) ∧ d = some x.dd ∧ tS C.no (gY i j c lf x) D σ H
theorem HdsY.as {n : Str} {i j : Nat} {hds : List ExceptHandler} {l : List (Str × (List Cp × Str))} (h : HdsY C X i j n hds l) : HdsAs X n hds (l.map fun p => (.ref (He.ga X.K p.1), tsY C X i j p.1 p.2)) := by
  induction h with
  | nil => exact .nil
  | cons hg hm hd hsu r ih =>
    refine .cons hg hm hd (fun a oe cls d pn zn hf => ⟨fun pins s σ H D I h => ?_⟩) ih
    obtain ⟨x, rfl, rfl, rfl, h⟩ := h
    exact (hsu x oe pn ⟨oe, List.mem_cons_self, zn.zc, hf⟩).run pins s σ H D I h
end
section
variable {ρ : Rho} {QS : Ss → Prop} {i j : Nat} {hl : List (Str × (List Cp × Str))}
def ThTyy (i j : Nat) (hl : List (Str × (List Cp × Str))) (Q : Ss → Prop) : R (D × Bool) → Prop := fun r => Q (tryY i j hl r)
@[simp ↓] theorem w_tryY {f : Rho → R (D × Bool)} : wpS (sTryY i j hl f ρ) QS = wpR (f ρ) (ThTyy i j hl QS) := (rfl)
@[simp ↓] theorem thtyy_ok {a : D × Bool} : wpR (.ok a ρ) (ThTyy i j hl QS) = wpS (if isPin ρ[i]? = true then .err else .nx (ρ.set i (some (a.1, kd a.2)))) QS := (rfl)
@[simp ↓] theorem thtyy_exc {c : Str} {fs : List (Str × D)} : wpR (.exc c fs ρ) (ThTyy i j hl QS) = wpS (tryV i j (exY hl c fs) ρ) QS := (rfl)
end
end Nu
namespace Nu
open PySem PySem.Spec PyProof.Rows L2
variable [WorldI]
section
variable {K : PySem.W.Frag} {P : Nat → Addr} {F F' H H' Z Z' : Hp} {σ : St} {ρ : Rho} {a b : Addr}
/-! ## a dict of lists that are still written -/
inductive RegE (K : PySem.W.Frag) (F Z : Hp) : Ents → List (D × List D) → List Addr → Prop
  | nil : RegE K F Z [] [] []
  | cons {k : NestedKey} {u : Value} {v : V} {dk : D} {b : Addr} {vs : List V} {ds : List D} {L : Ents} {es : List (D × List D)} {bs : List Addr} :
      key8 dk = some k → RelV v u → Rel K F v dk → Z b = some (.lst vs) → Rels K F vs ds → b ∉ bs → RegE K F Z L es bs → RegE K F Z ((k, u, .ref b) :: L) ((dk, ds) :: es) (b :: bs)
structure Reg (K : PySem.W.Frag) (F Z : Hp) (a : Addr) (es : List (D × List D)) (bs : List Addr) : Prop where
  at_ : ∃ L, Z a = some (DicHO a L) ∧ ndK L ∧ RegE K F Z L es bs
  sys : (a == sysModules) = false
  na : a ∉ bs
theorem RegE.mono (e : Le F F') : ∀ {L : Ents} {es : List (D × List D)} {bs : List Addr}, RegE K F Z L es bs → RegE K F' Z L es bs
  | _, _, _, .nil => .nil
  | _, _, _, .cons h1 h2 h3 h4 h5 h6 r => .cons h1 h2 (Rel.mono e h3) h4 (Rels.mono e h5) h6 (RegE.mono e r)
theorem Reg.mono (e : Le F F') {es : List (D × List D)} {bs : List Addr} (h : Reg K F Z a es bs) : Reg K F' Z a es bs := by
  obtain ⟨⟨L, h1, h2, h3⟩, h4, h5⟩ := h
  exact ⟨⟨L, h1, h2, h3.mono e⟩, h4, h5⟩
theorem RegE.other {o : HO} : ∀ {L : Ents} {es : List (D × List D)} {bs : List Addr}, RegE K F Z L es bs → b ∉ bs → RegE K F (upd Z b o) L es bs
  | _, _, _, .nil, _ => .nil
  | _, _, _, .cons (b := c) h1 h2 h3 h4 h5 h6 r, n => .cons h1 h2 h3 (by rw [upd_ne (fun z => n (by simp [z]))]; exact h4) h5 h6 (RegE.other r fun z => n (by simp [z]))
def findL : List (D × List D) → NestedKey → Option (List D)
  | [], _ => none
  | p :: r, k => if key8 p.1 = some k then some p.2 else findL r k
def appL : List (D × List D) → NestedKey → D → List (D × List D)
  | [], _, _ => []
  | p :: r, k, d => if key8 p.1 = some k then (p.1, p.2 ++ [d]) :: r else p :: appL r k d
theorem RegE.step {k : NestedKey} {ds : List D} : ∀ {L : Ents} {es : List (D × List D)} {bs : List Addr}, RegE K F Z L es bs → findL es k = some ds →
    ∃ b vs, NuD.atK L k = some (.ref b) ∧ b ∈ bs ∧ Z b = some (.lst vs) ∧ Rels K F vs ds ∧ ∀ (v : V) (d : D), Rel K F v d → RegE K F (upd Z b (.lst (vs ++ [v]))) L (appL es k d) bs
  | _, _, _, .nil, h => by cases h
  | _, _, _, .cons (k := k') (u := u) (v := w) (dk := dk) (b := c) (vs := us) (ds := ds') (L := L) (es := es) (bs := bs) h1 h2 h3 h4 h5 h6 r, h => by
    by_cases e : k' = k
    · subst e
      have e1 : findL ((dk, ds') :: es) k' = some ds' := by simp [findL, h1]
      rw [e1] at h
      cases h
      refine ⟨c, us, by simp [NuD.atK], by simp, h4, h5, fun v d hv => ?_⟩
      have e2 : appL ((dk, ds) :: es) k' d = (dk, ds ++ [d]) :: es := by simp [appL, h1]
      rw [e2]
      exact .cons h1 h2 h3 upd_same (h5.append (.cons hv .nil)) h6 (r.other h6)
    · have n1 : key8 dk ≠ some k := fun z => e (by rw [h1] at z; exact Option.some.inj z)
      have e1 : findL ((dk, ds') :: es) k = findL es k := by simp [findL, n1]
      rw [e1] at h
      obtain ⟨b, vs, a1, a2, a3, a4, a5⟩ := r.step h
      refine ⟨b, vs, by simp [NuD.atK, e] at a1 ⊢; exact a1, by simp [a2], a3, a4, fun v d hv => ?_⟩
      have e2 : appL ((dk, ds') :: es) k d = (dk, ds') :: appL es k d := by simp [appL, n1]
      rw [e2]
      exact .cons h1 h2 h3 (by rw [upd_ne (fun z => h6 (by rw [z]; exact a2))]; exact h4) h5 h6 (a5 v d hv)
theorem Reg.step {es : List (D × List D)} {bs : List Addr} {k : NestedKey} {ds : List D} (R : Reg K F Z a es bs) (h : findL es k = some ds) :
    ∃ L b vs, Z a = some (DicHO a L) ∧ NuD.atK L k = some (.ref b) ∧ b ∈ bs ∧ Z b = some (.lst vs) ∧ Rels K F vs ds ∧ ∀ (v : V) (d : D), Rel K F v d → Reg K F (upd Z b (.lst (vs ++ [v]))) a (appL es k d) bs := by
  obtain ⟨⟨L, h1, h2, h3⟩, h4, h5⟩ := R
  obtain ⟨b, vs, a1, a2, a3, a4, a5⟩ := h3.step h
  have hab : a ≠ b := fun z => h5 (z ▸ a2)
  exact ⟨L, b, vs, h1, a1, a2, a3, a4, fun v d hv => ⟨⟨L, by rw [upd_ne hab]; exact h1, h2, a5 v d hv⟩, h4, h5⟩⟩
theorem SR.apart {u : HO} (S : SR K P Z F σ ρ H) (h : Z b = some u) : Free σ ρ b := fun i d k e hk hv => by
  obtain ⟨v, hv', w⟩ := S.sl i d k e
  rw [hv] at hv'
  cases hv'
  have w' : Own K Z F H b d := by
    cases k with
    | sh => exact absurd rfl hk
    | ow => obtain ⟨c, r, w⟩ := w; cases r; exact w
    | pin => obtain ⟨c, r, w⟩ := w; cases r; exact w
  have := w'.nz
  rw [h] at this
  cases this
theorem SR.asideH {u : HO} (S : SR K P Z F σ ρ H) (h : Z b = some u) (hu : ∀ ps, u ≠ .tbl ps) : H b = some u := by
  rcases S.zh b u h with ⟨_, e⟩ | ⟨q, e, _⟩
  · exact e
  · exact absurd e (hu _)
theorem RegE.freeze {Z0 : Hp} : ∀ {L : Ents} {es : List (D × List D)} {bs : List Addr} {F : Hp}, RegE K F Z L es bs → SR K P Z0 F σ ρ H → (∀ b ∈ bs, ∀ u, Z b = some u → H b = some u ∧ F b = none ∧ Z0 b = none ∧ Free σ ρ b) →
    ∃ F', Le F F' ∧ SR K P Z0 F' σ ρ H ∧ RelD K F' L (es.map fun p => (p.1, .lst p.2)) ∧ ∀ c, c ∉ bs → F' c = F c
  | _, _, _, F, .nil, S, _ => ⟨F, Evl.Ex.refl F, S, .nil, fun _ _ => rfl⟩
  | _, _, _, F, .cons (b := c) (vs := us) (ds := ds') h1 h2 h3 h4 h5 h6 r, S, h => by
    obtain ⟨q1, q2, q3, q4⟩ := h c (by simp) _ h4
    have l1 : Le F (upd F c (.lst us)) := le_upd q2
    have S1 := S.freeze q1 q2 q3 q4
    obtain ⟨F', l2, S2, rd, keep⟩ := RegE.freeze (r.mono l1) S1 fun b hb u hu => by
      obtain ⟨p1, p2, p3, p4⟩ := h b (by simp [hb]) u hu
      exact ⟨p1, by rw [upd_ne (fun z : b = c => h6 (by rw [← z]; exact hb))]; exact p2, p3, p4⟩
    refine ⟨F', l1.trans l2, S2, .cons h1 h2 (Rel.mono (l1.trans l2) h3) (show RelV (.ref c) (.ref c) from rfl) (.lst (l2 _ _ upd_same) (Rels.mono (l1.trans l2) h5)) rd, fun x hx => ?_⟩
    rw [keep x (fun z => hx (by simp [z])), upd_ne (fun z => hx (by simp [z]))]
theorem Reg.done {Z0 : Hp} {es : List (D × List D)} {bs : List Addr} (R : Reg K F Z a es bs) (S : SR K P Z F σ ρ H) (l : Le Z0 Z) (t : Tabs0 K Z0) (na : Z0 a = none) (nb : ∀ b ∈ bs, Z0 b = none) :
    ∃ F', Le F F' ∧ SR K P Z0 F' σ ρ H ∧ RvR K Z0 F' H σ ρ (.ref a) (.dic (es.map fun p => (p.1, .lst p.2))) true := by
  obtain ⟨⟨L, h1, h2, h3⟩, h4, h5⟩ := R
  have lst_t : ∀ {b : Addr} {vs : List V}, Z b = some (.lst vs) → H b = some (.lst vs) := fun h => S.asideH h fun _ => nofun
  have each : ∀ {L : Ents} {es : List (D × List D)} {bs : List Addr}, RegE K F Z L es bs → ∀ b ∈ bs, ∃ vs, Z b = some (.lst vs) := by
    intro L es bs h
    induction h with
    | nil => intro b hb; simp at hb
    | cons _ _ _ h4 _ _ _ ih =>
      intro b hb
      rcases List.mem_cons.mp hb with rfl | hb
      · exact ⟨_, h4⟩
      · exact ih b hb
  obtain ⟨F', l1, S1, rd, keep⟩ := RegE.freeze (Z0 := Z0) h3 (S.less l t) fun b hb u hu => by
    obtain ⟨vs, e⟩ := each h3 b hb
    rw [e] at hu
    cases hu
    exact ⟨lst_t e, S.zf b _ e, nb b hb, S.apart e⟩
  have hH : H a = some (DicHO a L) := S.asideH h1 fun ps e => by
    unfold DicHO at e
    cases e
  exact ⟨F', l1, S1, a, rfl, ⟨by rw [keep a h5]; exact S.zf a _ h1, na, L, hH, h4, h2, rd⟩, S.apart h1⟩
end
end Nu
namespace Nu
open PySem PySem.Spec PyProof.Rows L2
variable [WorldI]
section
variable {C : Cq} {K : PySem.W.Frag} {P : Nat → Addr} {F F' H H' Z Z' : Hp} {σ σ' : St} {ρ ρ' : Rho} {a b : Addr} {X : Cx}
/-! ## {k: [] for t in it}: the lists are kept aside -/
theorem RegE.atK_none {k : NestedKey} : ∀ {L : Ents} {es : List (D × List D)} {bs : List Addr}, RegE K F Z L es bs → findL es k = none → NuD.atK L k = none
  | _, _, _, .nil, _ => rfl
  | _, _, _, .cons (k := k') (dk := dk) (ds := ds) (es := es) h1 h2 h3 h4 h5 h6 r, h => by
    by_cases e : k' = k
    · subst e
      simp [findL, h1] at h
    · have n1 : key8 dk ≠ some k := fun z => e (by rw [h1] at z; exact Option.some.inj z)
      have e1 : findL ((dk, ds) :: es) k = findL es k := by simp [findL, n1]
      rw [e1] at h
      have := r.atK_none h
      simp [NuD.atK, e] at this ⊢
      exact this
theorem RegE.snoc {k : NestedKey} {u : Value} {v : V} {dk : D} (h1 : key8 dk = some k) (h2 : RelV v u) (h3 : Rel K F v dk) (h4 : Z b = some (.lst [])) : ∀ {L : Ents} {es : List (D × List D)} {bs : List Addr}, RegE K F Z L es bs → b ∉ bs → RegE K F Z (L ++ [(k, u, .ref b)]) (es ++ [(dk, [])]) (bs ++ [b])
  | _, _, _, .nil, _ => .cons h1 h2 h3 h4 .nil (by simp) .nil
  | _, _, _, .cons (b := c) g1 g2 g3 g4 g5 g6 r, n => .cons g1 g2 g3 g4 g5 (fun z => by
      rcases List.mem_append.mp z with z | z
      · exact g6 z
      · exact n (by simp at z; subst z; simp)) (RegE.snoc h1 h2 h3 h4 r fun z => n (by simp [z]))
theorem setK_new {L : Ents} {k : NestedKey} {u v : Value} (h : NuD.atK L k = none) : NuD.setK L k u v = L ++ [(k, u, v)] := by
  unfold NuD.setK
  rw [h]
  rfl
theorem Reg.snoc {k : NestedKey} {u : Value} {v : V} {dk : D} {es : List (D × List D)} {bs : List Addr} {L : Ents} (hs : (a == sysModules) = false) (na : a ∉ bs) (nd : ndK L) (R : RegE K F Z L es bs) (h1 : key8 dk = some k) (h2 : RelV v u) (h3 : Rel K F v dk) (h4 : Z b = some (.lst [])) (nb : b ∉ bs) (hab : a ≠ b) (hn : findL es k = none) :
    Reg K F (upd Z a (DicHO a (NuD.setK L k u (.ref b)))) a (es ++ [(dk, [])]) (bs ++ [b]) := by
  have an := R.atK_none hn
  refine ⟨⟨_, upd_same, NuD.setK_nd nd u _, ?_⟩, hs, fun z => (List.mem_append.mp z).elim na fun z => hab (by simpa using z)⟩
  rw [setK_new an]
  exact (R.snoc h1 h2 h3 h4 nb).other fun z => (List.mem_append.mp z).elim na fun z => hab (by simpa using z)
theorem RegE.keysV (l : Le F H) {L : Ents} {es : List (D × List D)} {bs : List Addr} (h : RegE K F Z L es bs) : ∀ e ∈ L, e.1.depth ≤ 8 ∧ ∃ v, RelV v e.2.1 ∧ KeyV K H v e.1 := by
  induction h with
  | nil => intro e he; cases he
  | cons h1 h2 h3 _ _ _ _ ih =>
    intro e he
    rcases List.mem_cons.mp he with rfl | he
    · obtain ⟨k1, k2⟩ := Rl.key l (.inl h3) h1
      exact ⟨k2, _, h2, k1⟩
    · exact ih e he
theorem RegE.length {L : Ents} {es : List (D × List D)} {bs : List Addr} (h : RegE K F Z L es bs) : L.length = es.length := by
  induction h with
  | nil => rfl
  | cons _ _ _ _ _ _ _ ih => rw [List.length_cons, List.length_cons, ih]
structure Ext (Z Zr : Hp) (a : Addr) (bs : List Addr) : Prop where
  le : Le Z Zr
  na : Z a = none
  nb : ∀ b ∈ bs, Z b = none
theorem Ext.put {Zr : Hp} {bs : List Addr} {o : HO} (e : Ext Z Zr a bs) (h : b = a ∨ b ∈ bs) : Ext Z (upd Zr b o) a bs := ⟨fun c u q => by
  have : c ≠ b := fun z => by
    subst z
    rcases h with rfl | h
    · rw [e.na] at q; cases q
    · rw [e.nb _ h] at q; cases q
  rw [upd_ne this]
  exact e.le c u q, e.na, e.nb⟩
def AtL (C : Cq) (Z F : Hp) (σ : St) (Q : VK) : R (List (D × List D)) → Prop
  | .ok acc ρ' => ∀ F' H' Zr a bs, Le F F' → SR C.K C.P Zr F' σ ρ' H' → Ext Z Zr a bs → Reg C.K F' Zr a acc bs → Q (.ref a) H'
  | _ => False
theorem AtL.mono {Q : VK} {r : R (List (D × List D))} (e : Le F F') (h : AtL C Z F σ Q r) : AtL C Z F' σ Q r := by
  cases r with
  | ok a ρ' => exact fun F2 H2 Zr b bs l => h F2 H2 Zr b bs (e.trans l)
  | exc c fs ρ' => exact h
  | err => exact h
end
end Nu
namespace Nu
open PySem PySem.Spec PyProof.Rows L2
variable [WorldI]
section
variable {C : Cq} {Z Z' F F' H H' : Hp} {σ σ' : St} {ρ ρ' : Rho} {X : Cx} {K : PySem.W.Frag}
/-! ## x[i] += e, x[i] -= e: a list or a dict of ints -/
def getIxD (i : Nat) (x : D) (ρ : Rho) : Option D := match ρ[i]? with
  | some (some (.dic es, k)) => if k = .sh then none else (key8 x).bind (findD es)
  | some (some (.lst ds, k)) => if k = .sh then none else match x with
    | .int n => (ixN ds.length n).bind fun j => ds[j]?
    | _ => none
  | _ => none
def opI (g : Int → Int → Int) (d e : D) : Option D := match d, e with
  | .int a, .int c => some (.int (g a c))
  | _, _ => none
def frO (a : D × Bool) : Option D := if a.2 = true then none else some a.1
def sAugIx (g : Int → Int → Int) (i : Nat) (fi fv : Rho → R (D × Bool)) (ρ : Rho) : Ss := if isLD ρ[i]? = true then Rx (fi ρ) fun b ρ1 => optS (frO b) fun x => optS (getIxD i x ρ1) fun d => Rx (fv ρ1) fun a ρ2 => optS ((frO a).bind (opI g d)) fun e => optS (setIxD i x e ρ2) fun ρ3 => .nx ρ3 else .err
end
section
variable {ρ : Rho} {QS : Ss → Prop}
@[simp ↓] theorem w_augIx {g : Int → Int → Int} {i : Nat} {fi fv : Rho → R (D × Bool)} : wpS (sAugIx g i fi fv ρ) QS = wpS (if isLD ρ[i]? = true then Rx (fi ρ) fun b ρ1 => optS (frO b) fun x => optS (getIxD i x ρ1) fun d => Rx (fv ρ1) fun a ρ2 => optS ((frO a).bind (opI g d)) fun e => optS (setIxD i x e ρ2) fun ρ3 => .nx ρ3 else .err) QS := (rfl)
@[simp] theorem frO_f {d : D} : frO (d, false) = some d := rfl
@[simp] theorem opI_i {g : Int → Int → Int} {a c : Int} : opI g (.int a) (.int c) = some (.int (g a c)) := rfl
end
end Nu
namespace Nu
open PySem PySem.Spec PyProof.Rows L2
variable [WorldI]

/-! ## sorted(set(xs)) of a list of ints -/
section
variable {P : Program} {w : World} {A : Around} {E : Value → Shared → Prop} {s : Shared}
end

section
variable {C : Cq} {Z Z' F F' H H' : Hp} {σ σ' : St} {ρ ρ' : Rho} {X : Cx} {K : PySem.W.Frag}
def insI (k : Int) : List Int → List Int
  | [] => [k]
  | x :: r => if k < x then k :: x :: r else if k = x then x :: r else x :: insI k r
def srtI (ns : List Int) : List Int := ns.foldr insI []
def gSrtSet : D → Option (D × Bool)
  | .lst ds => (intsOf ds).bind fun ns => if ns.length < 64 then some (.lst ((srtI ns).map D.int), true) else none
  | _ => none
def sSrtSet (f : Rho → R Opd) (ρ : Rho) : R (D × Bool) := (f ρ).bind fun o ρ1 => R.of ((peek ρ1 o).bind gSrtSet) ρ1
/-! ## tuple(range(a)), tuple(range(a, b)) -/
def rgOk (a b : Int) : Bool := decide (-(2 ^ 62) ≤ a) && decide (a < 2 ^ 62) && decide (-(2 ^ 62) ≤ b) && decide (b < 2 ^ 62) && decide ((b - a).toNat ≤ 2 ^ 24)
def tupR (a b : Int) (ρ : Rho) : R (D × Bool) := if rgOk a b = true then .ok (.tup (intsD a (b - a).toNat), false) ρ else .err
def sTupR1 (f : Rho → R (D × Bool)) (ρ : Rho) : R (D × Bool) := (f ρ).bind fun a ρ1 => match a.1 with
  | .int n => tupR 0 n ρ1
  | _ => .err
end
section
variable {ρ : Rho} {QE : R (D × Bool) → Prop}
@[simp ↓] theorem w_srtSet {f : Rho → R Opd} : wpR (sSrtSet f ρ) QE = wpR (f ρ) (ThR (fun o ρ1 => R.of ((peek ρ1 o).bind gSrtSet) ρ1) QE) := by
  rw [← wp_bind]; rfl
@[simp ↓] theorem w_tupR1 {f : Rho → R (D × Bool)} : wpR (sTupR1 f ρ) QE = wpR (f ρ) (ThR (fun a ρ1 => match a.1 with
  | .int n => tupR 0 n ρ1
  | _ => .err) QE) := by
  rw [← wp_bind]; rfl
end
end Nu
/-! zip of a text and a tuple -/
namespace NuZ
open PySem
end NuZ
namespace NuZ
open PySem PySem.Spec PyProof.Rows L2
end NuZ
namespace Nu
open PySem PySem.Spec PyProof.Rows L2
variable [WorldI]
section
variable {C : Cq} {Z Z' F F' H H' : Hp} {σ σ' : St} {ρ ρ' : Rho} {X : Cx} {K : PySem.W.Frag}
def zipV : List Opd → Option (List D)
  | [.val (.str a), .val (.tup es)] => some (zipD (chars a) es)
  | _ => none
def sZipV (f : Rho → R (List Opd)) (ρ : Rho) : R (List D) := (f ρ).bind fun os ρ1 => R.of (zipV os) ρ1
end
section
variable {ρ : Rho} {QL : R (List D) → Prop}
@[simp ↓] theorem w_zipV {f : Rho → R (List Opd)} : wpR (sZipV f ρ) QL = wpR (f ρ) (ThR (fun os ρ1 => R.of (zipV os) ρ1) QL) := wp_bind
@[simp] theorem zipV_s {a : List Cp} {es : List D} : zipV [.val (.str a), .val (.tup es)] = some (zipD (chars a) es) := rfl
end
end Nu
namespace Nu
open PySem PySem.Spec PyProof.Rows L2
variable [WorldI]
/-! ## closures: a lambda with one parameter that catches names, handed to defs -/
structure LW where
  x : Str
  pos : Pos
  par : Arguments
  body : Expr
  scope : Scope
  p : Str
  fr : List Str
def LW.P (K : PySem.W.Frag) (l : LW) : Addr := (He.cT K (l.x, none)).2
theorem among_more {pos : Pos} {cv : Value} (l m : List Value) (h : codeAmong pos l = some cv) : codeAmong pos (l ++ m) = some cv := by
  fun_induction codeAmong pos l with
  | case1 line a col b c rest q => 
    simp only [List.cons_append, codeAmong]
    rw [if_pos q]; exact h
  | case2 line a col b c rest q ih =>
    simp only [List.cons_append, codeAmong]
    rw [if_neg q]; exact ih h
  | case3 => cases h
structure CloE (K : PySem.W.Frag) (l : LW) (f : Addr) (cl : List (Str × Addr)) (as : List Addr) (outer : List Env) (s : Shared) (H : Hp) : Prop where
  fn : ∃ pm c ctv, s.heap.get? f = some (PySem.W.kla_obj "<lambda>" (lamQ l.x) l.par l.body l.scope cl pm c ctv) ∧ ∃ ps : Array Value, H (l.P K) = some (.tbl ps) ∧ codeAmong l.pos ps.toList = some (.ref c)
  new : H f = none
  nofr : f ∉ frs outer
  cells : NdefX.CellsAt cl l.fr (as.map fun a => some (.ref a)) s.heap H
  nocell : ∀ y c, cl.lookup y = some c → c ∉ frs outer
section
variable {C : Cq} {Z Z' F F' H H' : Hp} {σ σ' : St} {ρ ρ' : Rho} {X : Cx} {K : PySem.W.Frag} {pins : List (Addr × Obj)} {s : Shared} {l : LW} {f : Addr} {cl : List (Str × Addr)} {as : List Addr}
theorem CloE.later (E : CloE X.K l f cl as X.outer X.s_0 X.H_0) (hx : X.ex = []) (I : Inv X pins σ H s) : CloE X.K l f cl as X.stack s H := by
  obtain ⟨⟨pm, c, ctv, hf, ps, hP, hc⟩, hn, hfr, hC, hN⟩ := E
  have nx : ∀ b, b ∉ X.ex := fun b => by rw [hx]; simp
  have up : ∀ b o, X.s_0.heap.get? b = some o → b ∉ frs X.outer → b ∉ frs X.stack := fun b o e n z => by
    rcases List.mem_cons.mp (I.stkSub b z) with q | q
    · exact absurd (q ▸ Heap.lt_size e) (Nat.not_lt.mpr I.ok.above)
    · exact n q
  obtain ⟨more, hP'⟩ := I.base.tbls _ _ hP
  refine ⟨⟨pm, c, ctv, I.base.keep f _ hf hn hfr (nx f), _, hP', by rw [Array.toList_append]; exact among_more _ _ hc⟩, I.base.free f _ hf hn (nx f), up f _ hf hfr, hC.later hN (fun _ c _ => nx c) I, fun y c e => ?_⟩
  obtain ⟨n, v, o, ho, _⟩ := hC.all y c e
  exact up c o ho (hN y c e)
structure LOk (Pg : Program) (w : World) (K : PySem.W.Frag) (mg : Str → Option Value) (base : Heap) (k : Nat) (l : LW) (ms : List Bool) (m : Mir) : Prop where
  run : ∀ (A : Around) (outer : List Env) (s : Shared) (H : Hp) (f : Addr) (cl : List (Str × Addr)) (as : List Addr) (u : Value) (v : V) (Q : VK) (E : XK), Nu.Room k A → Env0 Pg w K mg base A outer s H → CloE K l f cl as outer s H → RelV v u →
    spM K ms m (v :: as.map .ref) H Q E → codeAny (model Pg w) A (.call (.ref f) ⟨[u], []⟩) (CR (L2N.CX Pg w) outer Pg w H s Q E) s
theorem LOk.mono {Pg : Program} {w : World} {mg : Str → Option Value} {base : Heap} {i j : Nat} {ms : List Bool} {m : Mir} (o : LOk Pg w K mg base i l ms m) (h : i ≤ j) : LOk Pg w K mg base j l ms m :=
  ⟨fun A outer s H f cl as u v Q E r => o.run A outer s H f cl as u v Q E (r.mono h)⟩
/-! ### a def that gets the lambda -/
structure GOk (Pg : Program) (w : World) (K : PySem.W.Frag) (mg : Str → Option Value) (base : Heap) (k : Nat) (g : Addr) (fd : FuncData) (ps : List Str) (l : LW) (ms : List Bool) (m : Addr → List Addr → Mir) : Prop where
  run : ∀ (A : Around) (outer : List Env) (s : Shared) (H : Hp) (args : Args) (us : List Value) (vs : List V) (f : Addr) (cl : List (Str × Addr)) (as : List Addr) (Q : VK) (E : XK), Nu.Room k A → Env0 Pg w K mg base A outer s H → BindsTo s fd args (ps.zip us) → Vals vs us → vs.length = ps.length →
    CloE K l f cl as outer s H → spM K ms (m f as) (vs ++ as.map .ref) H Q E → codeAny (model Pg w) A (.call (.ref g) args) (CR (L2N.CX Pg w) outer Pg w H s Q E) s
theorem GOk.mono {Pg : Program} {w : World} {mg : Str → Option Value} {base : Heap} {i j : Nat} {g : Addr} {fd : FuncData} {ps : List Str} {ms : List Bool} {m : Addr → List Addr → Mir} (o : GOk Pg w K mg base i g fd ps l ms m) (h : i ≤ j) : GOk Pg w K mg base j g fd ps l ms m :=
  ⟨fun A outer s H args us vs f cl as Q E r => o.run A outer s H args us vs f cl as Q E (r.mono h)⟩
/-! ### what it catches, seen from such a def: j the first of the slots -/
def noTm : Av → Bool
  | .tmp _ => false
  | _ => true
theorem tmps_no : ∀ {vs : List V} {as : List Av}, as.all noTm = true → tmps vs as = []
  | [], _, _ => by simp [tmps]
  | v :: vs, [], _ => by cases v <;> simp [tmps]
  | v :: vs, a :: as, h => by
    rw [List.all_cons, Bool.and_eq_true] at h
    have := tmps_no (vs := vs) (as := as) h.2
    cases v <;> cases a <;> simp_all [tmps, noTm]
theorem Avs.join {v : V} {x : Av} {vs : List V} {xs : List Av} (h : Avs K Z F H σ ρ [v] [x]) (r : Avs K Z F H σ ρ vs xs) (n : xs.all noTm = true) : Avs K Z F H σ ρ (v :: vs) (x :: xs) := by
  cases h with
  | val h _ => exact .val h r
  | var h _ => exact .var h r
  | tmp w f _ _ => exact .tmp w f (by rw [tmps_no n]; simp) r
theorem vals1 {v : V} : ∀ {us : List Value}, Vals [v] us → ∃ u, us = [u] ∧ RelV v u
  | _, .cons h r => by
    cases r
    exact ⟨_, rfl, h⟩
end
end Nu
namespace Nu
open PySem PySem.Spec PyProof.Rows L2
variable [WorldI]
section
variable {C : Cq} {Z Z' F F' H H' : Hp} {σ σ' : St} {ρ ρ' : Rho} {X : Cx} {K : PySem.W.Frag} {pins : List (Addr × Obj)} {s : Shared} {l : LW} {f : Addr} {cl : List (Str × Addr)} {as : List Addr}
/-! ## a lambda is made and handed to a def -/
/-! ### the argument ahead of it -/
theorem Avs.lam {P : Addr} {q : Str} {H1 : Hp} (hz : Z P = some (mark q)) (keep : ∀ b o, b ≠ P → H b = some o → H1 b = some o) : ∀ {vs : List V} {xs : List Av}, Avs K Z F H σ ρ vs xs → Avs K Z F H1 σ ρ vs xs
  | _, _, .nil => .nil
  | _, _, .val h r => .val h (Avs.lam hz keep r)
  | _, _, .var h r => .var h (Avs.lam hz keep r)
  | _, _, .tmp w f n r => .tmp ⟨w.nf, w.nz, w.at_.move (Evl.Ex.refl F) fun o z => keep _ o (fun y => by have := w.nz; rw [y, hz] at this; cases this) z⟩ f n (Avs.lam hz keep r)
/-! ### what it catches -/
def frz : List Nat → List Bool → Rho → Rho
  | j :: js, false :: ms, ρ => frz js ms (match ρ[j]? with
    | some (some (d, .ow)) => ρ.set j (some (d, .sh))
    | _ => ρ)
  | _ :: js, true :: ms, ρ => frz js ms ρ
  | _, _, ρ => ρ
theorem Free.frz {d : D} {j : Nat} {a : Addr} (fr : Free σ ρ a) : Free σ (ρ.set j (some (d, .sh))) a := fun i e l hi hl q => by
  by_cases hij : j = i
  · subst hij
    rw [List.getElem?_set] at hi
    simp only [if_true] at hi
    split at hi
    · cases hi; exact hl rfl
    · cases hi
  · rw [List.getElem?_set_ne hij] at hi
    exact fr i e l hi hl q
/-! ### a def hands it on -/
theorem tmps_app : ∀ {vs ws : List V} {xs gs : List Av}, vs.length = xs.length → gs.all noTm = true → tmps (vs ++ ws) (xs ++ gs) = tmps vs xs
  | [], ws, [], gs, _, h => by rw [List.nil_append, List.nil_append, tmps_no h]; simp [tmps]
  | [], _, _ :: _, _, e, _ => by simp at e
  | _ :: _, _, [], _, e, _ => by simp at e
  | v :: vs, ws, x :: xs, gs, e, h => by
    have := tmps_app (vs := vs) (ws := ws) (xs := xs) (gs := gs) (by simpa using e) h
    cases v <;> cases x <;> simp [tmps, this]
theorem Avs.app {ws : List V} {gs : List Av} (r : Avs K Z F H σ ρ ws gs) (n : gs.all noTm = true) : ∀ {vs : List V} {xs : List Av}, Avs K Z F H σ ρ vs xs → Avs K Z F H σ ρ (vs ++ ws) (xs ++ gs)
  | _, _, .nil => r
  | _, _, .val h q => .val h (Avs.app r n q)
  | _, _, .var h q => .var h (Avs.app r n q)
  | _, _, .tmp (a := b) w f m q => .tmp w f (by
      have e := tmps_app (ws := ws) q.len n
      show b ∉ tmps (_ ++ ws) (_ ++ gs)
      rw [e]; exact m) (Avs.app r n q)
end
end Nu
namespace Nu
open PySem PySem.Spec PyProof.Rows L2
variable [WorldI]
section
variable {C : Cq} {K : PySem.W.Frag} {P : Nat → Addr} {F F' H H' Z Z' : Hp} {σ σ' : St} {ρ ρ' : Rho} {a b : Addr} {X : Cx}
/-! ## x = {k: [] for ..}, and the statements that write its lists -/
inductive RS where
  | nx (es : List (D × List D)) (ρ : Rho)
  | err
abbrev Rg := Addr → List (D × List D) → Rho → RS
def AtRg (C : Cq) (Z0 F : Hp) (E : Ends) (a : Addr) : RS → Prop
  | .nx es ρ' => ∀ F' H' σ' Zr bs, Le F F' → SR C.K C.P Zr F' σ' ρ' H' → Ext Z0 Zr a bs → Reg C.K F' Zr a es bs → E.nx σ' H'
  | .err => False
theorem AtRg.mono {E : Ends} {r : RS} (e : Le F F') (h : AtRg C Z F E a r) : AtRg C Z F' E a r := by
  cases r with
  | nx es ρ' => exact fun F2 H2 s Zr bs l => h F2 H2 s Zr bs (e.trans l)
  | err => exact h
/-! ### loops -/
/-! ### x[k].append(e) -/
/-! ### from its making to the first other use -/
end
end Nu
namespace Nu
open PySem PySem.Spec PyProof.Rows L2
variable [WorldI]
section
variable {C : Cq} {Z Z' F F' H H' : Hp} {σ σ' : St} {ρ ρ' : Rho} {X : Cx} {K : PySem.W.Frag}
/-! ## sorted(d) of a dict whose keys are numbers -/
def srtK (es : List (D × D)) : Option (D × Bool) := (intsOf (keysD es)).bind fun ns => if es.length ≤ sizeLine then some (.lst ((srtI ns).map D.int), true) else none
def gSortK : List D → Option (D × Bool)
  | [.dic es] => srtK es
  | _ => none
@[simp] theorem gSortK_d {es : List (D × D)} : gSortK [.dic es] = srtK es := rfl
end
/-! ## try: y = e / except A as n: y = f(n.field) -/
section
variable {C : Cq} {Z Z' F F' H H' : Hp} {σ σ' : St} {ρ ρ' : Rho} {X : Cx} {K : PySem.W.Frag}
def tryZ (i j : Nat) (c : Str) (v : List (Str × D) → Option D) : R (D × Bool) → Ss
  | .ok a ρ1 => if isPin ρ1[i]? = true then .err else .nx (ρ1.set i (some (a.1, kd a.2)))
  | .exc c' fs ρ1 => if c' = c then (match v fs with
    | some d => setX i j d ρ1
    | none => .err) else .err
  | .err => .err
def sTryZ (i j : Nat) (c : Str) (v : List (Str × D) → Option D) (f : Rho → R (D × Bool)) (ρ : Rho) : Ss := tryZ i j c v (f ρ)
end
section
variable {ρ : Rho} {QS : Ss → Prop} {i j : Nat} {c : Str} {v : List (Str × D) → Option D}
def ThTz (i j : Nat) (c : Str) (v : List (Str × D) → Option D) (Q : Ss → Prop) : R (D × Bool) → Prop := fun r => Q (tryZ i j c v r)
@[simp ↓] theorem w_tryZ {f : Rho → R (D × Bool)} : wpS (sTryZ i j c v f ρ) QS = wpR (f ρ) (ThTz i j c v QS) := (rfl)
@[simp ↓] theorem thtz_ok {a : D × Bool} : wpR (.ok a ρ) (ThTz i j c v QS) = wpS (if isPin ρ[i]? = true then .err else .nx (ρ.set i (some (a.1, kd a.2)))) QS := (rfl)
@[simp ↓] theorem thtz_exc {fs : List (Str × D)} : wpR (.exc c fs ρ) (ThTz i j c v QS) = wpS (tryV i j (v fs) ρ) QS := by
  show Bx _ = Bx _
  congr 1
  unfold ThTz tryZ
  simp [tryV]
  all_goals rfl
end
end Nu
namespace Nu
open PySem PySem.Spec PyProof.Rows L2
variable [WorldI]
section
variable {ρ : Rho}
end
end Nu
namespace Nu
open PySem PySem.Spec PyProof.Rows L2
variable [WorldI]
section
variable {C : Cq} {Z Z' F F' H H' : Hp} {σ σ' : St} {ρ ρ' : Rho} {X : Cx} {K : PySem.W.Frag}
/-! ## len(set(xs)) of a list of ints -/
def gLenSetI : D → Option (D × Bool)
  | .lst ds => (intsOf ds).bind fun ns => if ns.length < 4000 then some (.int ((srtI ns).length : Nat), false) else none
  | _ => none
def sLenSetI (f : Rho → R Opd) (ρ : Rho) : R (D × Bool) := (f ρ).bind fun o ρ1 => R.of ((peek ρ1 o).bind gLenSetI) ρ1
/-! ## len of a dict -/
end
section
variable {ρ : Rho} {QE : R (D × Bool) → Prop}
@[simp ↓] theorem w_lenSetI {f : Rho → R Opd} : wpR (sLenSetI f ρ) QE = wpR (f ρ) (ThR (fun o ρ1 => R.of ((peek ρ1 o).bind gLenSetI) ρ1) QE) := by
  rw [← wp_bind]; rfl
end
/-! ## > of alike data -/
section
variable {X : Cx} {K : PySem.W.Frag}
end
end Nu
namespace PySem
namespace NuKG
open PySem.W PySem.Calls PyProof.Rows PySem.HandSPX Builtin Builtin.ObjectAttr
section
variable {prog : Program} {w : World} {A : Around} {E : Value → Shared → Prop} {R : Result → Shared → Prop} {h : Heap} {g : Array GenState} {d : Drawn} {t : Nat} {os : OsState} {M : Model}
variable {nm q : Str} {C N : Addr} {bs bm bmB : List Value} {hdct : Bool} {sn : List Str} {sub : List Value} {ab : Bool} {col : Option Bool} {dd : Option Addr} {k0 k1 k2 k3 k5 : Option Value} {B newId initId : String} {kw : List (Str × Value)}
theorem check_new_k (F : ExcBaseFacts B newId initId bmB) (hT : ∀ X : String, bm.contains (.type X) = bmB.contains (.type X)) {rest : List Value} {Q : Unit → Shared → Prop}
    (hC : h.get? C = some (excClassObj nm q C N bs bm hdct sn sub ab col dd k0 k1 k2 k3 k5 newId)) (hq : Q () ⟨h, g, d, t, os⟩) : wpAny M A (checkBuiltinCall newId ⟨.ref C :: rest, kw⟩) Q E ⟨h, g, d, t, os⟩ := by
  have hcont : (Value.ref C :: bm).contains (.type B) = true := by rw [List.contains_cons, hT, F.hasB, Bool.or_true]
  have hstar := F.noStar
  simp only [checkBuiltinCall, F.newKind, F.newSplit, F.newRow]
  repeat (first | refine wpAny_loadPart_at hC ?_ | (refine wpAny_isSubtype_exc hC ?_; rw [hcont]) | refine wpAny_staticBase_exc hC ?_ | refine wpAny_madeBy_exc hC ?_ | simp only [bne_self_eq_false, Bool.false_eq_true, if_false] | wp_step)
  exact hq
theorem new_own_k (F : ExcBaseFacts B newId initId bmB) (hT : ∀ X : String, bm.contains (.type X) = bmB.contains (.type X)) {rest : List Value}
    (hC : h.get? C = some (excClassObj nm q C N bs bm hdct sn sub ab col dd k0 k1 k2 k3 k5 newId))
    (hq : R (.ok (.ret (.ref (h.objs.size + 1)))) ⟨(h.push { cls := .type "tuple", data := .seq rest.toArray }).push
      { cls := .ref C, data := .fields #[.ref h.objs.size, .none, .none, .none, .bool false, .none] }, g, d, t, os⟩) (hrest : rest.length ≤ sizeLine) :
    codeAny (model prog w) A (.builtin newId ⟨.ref C :: rest, kw⟩) R ⟨h, g, d, t, os⟩ := by
  have hends := F.ends
  have hcB : (Value.ref C :: bm).contains (.type B) = true := by rw [List.contains_cons, hT, F.hasB, Bool.or_true]
  have hcA : (Value.ref C :: bm).contains (.type "AttributeError") = false := by rw [List.contains_cons, hT, F.noAttr]; rfl
  have hcN : (Value.ref C :: bm).contains (.type "NameError") = false := by rw [List.contains_cons, hT, F.noName]; rfl
  refine codeAny_builtinAt F.entry ?_
  unfold Builtin.«BaseException.__new__»
  refine wpAt_bind ?_
  show wpAt _ _ _ (stack >>= _) _ _ _
  refine wpAt_bind (wpAt_stack fun p below => wpAt_of_wpAny ?_)
  wp_walk
  refine wpAt_of_wpAny ?_
  rw [F.owner]
  repeat (first | with_reducible refine wpAny_madeHere_exc F.canon hC ?_ | with_reducible refine wpAny_loadPart_at hC ?_ | (with_reducible refine wpAny_isSubtype_exc hC ?_; first | rw [hcB] | rw [hcA] | rw [hcN]) | wp_step)
  show R _ _
  rw [Heap.size_push]
  exact hq
theorem type_call_k (F : ExcBaseFacts B newId initId bmB) (hT : ∀ X : String, bm.contains (.type X) = bmB.contains (.type X)) {rest : List Value} {fI : Addr} {Q : Fin → Shared → Prop}
    (hC : h.get? C = some (excClassObj nm q C N bs bm hdct sn sub ab col dd k0 k1 k2 k3 k5 newId))
    (hi : W.Looks (model prog w) h (typeLookup (.ref C) "__init__") (some (.ref fI))) (hb : ∀ self, W.Looks (model prog w) h (bindSpecial (.ref fI) self) (.ref fI, [self])) (hrest : rest.length ≤ sizeLine)
    (hq : codeAny (model prog w) A (.call (.ref fI) ⟨.ref (h.objs.size + 1) :: rest, kw⟩)
      (fun r s' => match r with | .ok (.ret v) => v = .none ∧ Q (.done (.ret (.ref (h.objs.size + 1)))) s' | .ok _ => False | .error e => E e s')
      ⟨(h.push (W.kdv_tup rest)).push (excO C h.objs.size), g, d, t, os⟩) :
    wpAny (model prog w) A (Builtin.«type.__call__» ⟨.ref C :: rest, kw⟩) Q E ⟨h, g, d, t, os⟩ := by
  repeat (first | with_reducible refine wpAny_loadPart_at hC ?_ | with_reducible refine wpAny_madeBy_exc hC ?_ | wp_step)
  refine codeAny_call_builtin_code (Code.quiet_builtin _ F.quiet) (check_new_k F hT hC ?_)
  refine new_own_k F hT hC ?_ hrest
  show wpAny _ _ _ _ _ _
  have k : ∀ b o, h.get? b = some o → ((h.push (W.kdv_tup rest)).push (excO C h.objs.size)).get? b = some o := fun b o e => Heap.get?_push_of_some _ (Heap.get?_push_of_some _ e)
  have hC₁ := k _ _ hC
  have hget : ((h.push (W.kdv_tup rest)).push (excO C h.objs.size)).get? (h.objs.size + 1) = some (excO C h.objs.size) := by heap_get
  have hcC : (Value.ref C :: bm).contains (.ref C) = true := by simp
  have i1 := hi.keeps k
  have b1 := (hb (.ref (h.objs.size + 1))).keeps k
  unfold isInstance
  repeat (first | with_reducible refine wpAny_loadPart_at hget ?_ | (with_reducible refine wpAny_isSubtype_exc hC₁ ?_; rw [hcC]) | wp_step)
  show wpAny _ _ (typeLookup (.ref C) _) _ _ _
  refine i1.at ?_
  refine wpAny_holding (wpAny_bind (b1.at ?_))
  refine wpAny_bind (wpAny_call (codeAny_mono hq fun r s' z => ?_))
  rcases r with e | (v | _ | _ | _) <;> first | exact z | exact z.elim | skip
  obtain ⟨rfl, z⟩ := z
  first
    | exact wpAny_pure (wpAny_pure z)
    | (wp_walk; exact z)
theorem check_tc_k {M : Model} {rest : List Value} {Q : Unit → Shared → Prop} (hC : h.get? C = some (excClassObj nm q C N bs bm hdct sn sub ab col dd k0 k1 k2 k3 k5 newId))
    (hq : Q () ⟨h, g, d, t, os⟩) : wpAny M A (checkBuiltinCall "type.__call__" ⟨.ref C :: rest, kw⟩) Q E ⟨h, g, d, t, os⟩ := by
  have f3 := tc_sub
  have hT : (⟨h, g, d, t, os⟩ : Shared).TypeIs (.ref C) "type" := ⟨_, hC, rfl⟩
  simp only [checkBuiltinCall, tc_kind, tc_split]
  repeat (any_goals (first | assumption | with_reducible refine wpAny_loadPart_at hC ?_ | with_reducible refine wpAny_onRaise ?_ | with_reducible refine wpAny_map ?_ | wp_step))
theorem call_own_k (F : ExcBaseFacts B newId initId bmB) (hT : ∀ X : String, bm.contains (.type X) = bmB.contains (.type X)) {rest : List Value} {fI : Addr}
    (hC : h.get? C = some (excClassObj nm q C N bs bm hdct sn sub ab col dd k0 k1 k2 k3 k5 newId))
    (hi : W.Looks (model prog w) h (typeLookup (.ref C) "__init__") (some (.ref fI))) (hb : ∀ self, W.Looks (model prog w) h (bindSpecial (.ref fI) self) (.ref fI, [self])) (hrest : rest.length ≤ sizeLine)
    (hq : codeAny (model prog w) (A.under (.builtin "type.__call__" ⟨.ref C :: rest, kw⟩)) (.call (.ref fI) ⟨.ref (h.objs.size + 1) :: rest, kw⟩) (W.InitBack (h.objs.size + 1) R)
      ⟨(h.push (W.kdv_tup rest)).push (excO C h.objs.size), g, d, t, os⟩) :
    codeAny (model prog w) A (.call (.ref C) ⟨rest, kw⟩) R ⟨h, g, d, t, os⟩ := by
  have f1 := tc_lookup
  have f2 := tc_bind (.ref C)
  have hTy : (⟨h, g, d, t, os⟩ : Shared).TypeIs (.ref C) "type" := ⟨_, hC, rfl⟩
  refine codeAny_of_tree ?_
  show wpAny _ _ (callAny (.ref C) _) _ _ _
  repeat (any_goals (first | assumption | with_reducible refine wpAny_loadPart_at hC ?_ | wp_step))
  refine ⟨rfl, ?_⟩
  refine codeAny_call_builtin_at (Code.quiet_builtin _ (by decide +kernel)) entry_typeCall (check_tc_k hC (type_call_k F hT hC hi hb hrest ?_))
  refine codeAny_mono hq fun r s' z => ?_
  rcases r with e | (v | _ | _ | _) <;> exact z
end
end NuKG
end PySem
namespace Nu
open PySem PySem.Spec PyProof.Rows L2
variable [WorldI]
section
variable {C : Cq} {Z Z' F F' H H' : Hp} {σ σ' : St} {ρ ρ' : Rho} {X : Cx} {K : PySem.W.Frag}
/-! ## errors as values -/
inductive ErrAt (K : PySem.W.Frag) (H : Hp) (a : Addr) (c : Str) : List (Str × V) → Prop
  | own {d : Addr} {vs : List (Str × V)} : H a = some (exo a (He.ga K c) (some d)) → H d = some (exd d vs) → ErrAt K H a c vs
  | bare : H a = some (ExO (.ref (He.ga K c)) a) → ErrAt K H a c []
theorem ErrAt.le {a : Addr} {c : Str} {vs : List (Str × V)} (h : ErrAt K F a c vs) (l : Le F H) : ErrAt K H a c vs := by
  cases h with
  | own h g => exact .own (l _ _ h) (l _ _ g)
  | bare h => exact .bare (l _ _ h)
theorem Rl.err {v : V} {c : Str} {fs : List (Str × D)} (h : Rl K F H v (.err c fs)) : ∃ a vs, v = .ref a ∧ ErrAt K F a c vs ∧ RelF K F vs fs := by
  rcases h with h | ⟨a, _, h⟩
  · cases h with
    | err h g r => exact ⟨_, _, rfl, .own h g, r⟩
    | err0 h => exact ⟨_, [], rfl, .bare h, .nil⟩
  · cases h
theorem ErrAt.inst {P : Program} {w : World} {h : Heap} {a : Addr} {c : Str} {vs : List (Str × V)} (e : ErrAt K H a c vs) (hok : HOk P w H h) : ∃ oe od, PySem.W.InstAt h a oe (He.ga K c) od ∧ ∀ f v, vs.lookup f = some v → ∃ u dd, od = some dd ∧ PySem.W.lookIn f dd = some (some u) ∧ RelV v u := by
  cases e with
  | own h1 h2 =>
    obtain ⟨t1, hget⟩ := exo_at hok h1
    obtain ⟨mA, hns, hr⟩ := exd_at hok h2
    obtain ⟨od, ho, hl⟩ := lookIn_ns hns
    refine ⟨_, some od, ⟨hget, rfl, rfl, ho⟩, fun f v hv => ?_⟩
    obtain ⟨u, hu, ru⟩ := RelO.some_of (v := v) (o := mA f) (by rw [← hv]; exact hr f)
    exact ⟨u, od, rfl, by rw [hl, hu], ru⟩
  | bare h1 =>
    obtain ⟨⟨oe, fv, hget, zc, hf, _⟩, _, _⟩ := hok a _ h1
    refine ⟨oe, none, ⟨hget, zc.1, by unfold PySem.W.notCls; rw [hf] <;> rfl, by rw [zc.2]; trivial⟩, fun f v hv => ?_⟩
    cases hv
/-! ### isinstance -/
def errC : D → Option Str
  | .err c _ => some c
  | _ => none
def sIsE (cs sup : List Str) (fo : Rho → R Opd) (ρ : Rho) : R (D × Bool) := (fo ρ).bind fun o ρ1 => optR ((peek ρ1 o).bind errC) fun c => if c ∈ cs then .ok (.bl (decide (c ∈ sup)), false) ρ1 else .err
theorem call_isE {cs sup : List Str} {t : Tc} (hi : IsXOk X.K cs sup t) : CallR X (.builtin "isinstance") (fun xs H Q => ∃ a c vs, xs = [.ref a, t.w X.K] ∧ c ∈ cs ∧ ErrAt X.K H a c vs ∧ Q (.bl (decide (c ∈ sup))) H) := by
  intro pins s σ H xs us Q I r h
  obtain ⟨a, c, vs, rfl, hc, he, q⟩ := h
  obtain ⟨u1, u2, rfl, r1, r2⟩ := vals2 r
  obtain rfl : u1 = Value.ref a := r1
  have e2 : u2 = t.v X.K := by
    cases t with
    | own c => exact r2
    | blt n => exact r2
  subst e2
  obtain ⟨ei, hk⟩ := hi.each c hc
  obtain ⟨oe, od, J, _⟩ := he.inst I.hok
  exact PySem.W.kia_one (PySem.W.kitx_exc ei.cl ei.hg ei.hk ei.hs ei.ha ei.hn ei.ht ei.hm) I.kIn J hk (fun z => nomatch z) fun tk => ⟨.bl _, H, I.kept (t' := tk) fun _ _ z => z, rfl, q⟩
theorem de_isE {cs sup : List Str} {t : Tc} {fo : Rho → R Opd} {a b : Expr} {p pos : Pos} (hk : X.K = C.K) (hi : IsXOk X.K cs sup t) (hg : Gl X "isinstance") (hm : X.mg "isinstance" = none) (hv : bootBuiltins "isinstance" = some (.builtin "isinstance")) (ha : PE X a (tO C fo)) (hb : PE X b (tC (t.w X.K)))
    (he : starEach [a, b] X.env = (false, eval a X.env) :: starEach [b] X.env := by rfl) (he2 : starEach [b] X.env = [(false, eval b X.env)] := by rfl) (hpl : (backTo pos (starEach [b] X.env)).any (·.1) = false := by rfl) :
    PE X (.Call (.Name "isinstance" p) [a, b] [] pos) (tE C (sIsE cs sup fo)) :=
  PE.imp (pe_callB (call_isE hi) hg hm hv (pa_cons ha (pa_cons hb pa_nil he2) he) (by decide) (by decide) he hpl) fun σ H Q ⟨Z, F, ρ, S, m⟩ => tG.step S m fun o ρ1 F1 H1 v l S1 r m1 => by
    cases e : (peek ρ1 o).bind errC with
    | none => rw [e] at m1; exact m1.elim
    | some c =>
      rw [e] at m1
      have m2 : At C (relE C.K) Z F1 σ Q (if c ∈ cs then .ok (.bl (decide (c ∈ sup)), false) ρ1 else .err) := m1
      split at m2
      · rename_i hc
        obtain ⟨d, p1, p2⟩ := Option.bind_eq_some_iff.mp e
        obtain ⟨fs, rfl⟩ : ∃ fs, d = .err c fs := by
          unfold errC at p2
          split at p2
          · cases p2; exact ⟨_, rfl⟩
          · cases p2
        obtain ⟨a, vs, rfl, ea, _⟩ := (peek_rl S1 r p1).err
        rw [hk]
        exact ⟨a, c, vs, rfl, hc, ea.le S1.fh, m2 F1 H1 _ (Evl.Ex.refl F1) S1 (.bl _)⟩
      · exact m2.elim
/-! ### attributes -/
def sFldE (cs : List Str) (f : Str) (fo : Rho → R Opd) (ρ : Rho) : R (D × Bool) := (fo ρ).bind fun o ρ1 => optR ((peek ρ1 o).bind fun d => match d with
  | .err c fs => if c ∈ cs then fs.lookup f else none
  | _ => none) fun d => .ok (d, false) ρ1
theorem de_fldE {cs : List Str} {f : Str} {fo : Rho → R Opd} {a : Expr} {pos : Pos} (hk : X.K = C.K) (hi : FldX X.K cs f) (ha : PE X a (tO C fo)) (hb : attributeBase a f X.env (eval a X.env) = eval a X.env := by rfl) : PE X (.Attribute a f pos) (tE C (sFldE cs f fo)) := by
  refine ⟨fun pins s σ H Q I ⟨Z, F, ρ, S, m⟩ => ?_⟩
  have h1 : tO C fo σ H (fun v H1 => ∃ F1 ρ1 a c vs w, SR C.K C.P Z F1 σ ρ1 H1 ∧ v = .ref a ∧ c ∈ cs ∧ ErrAt C.K F1 a c vs ∧ vs.lookup f = some w ∧ Q w H1) := tG.step S m fun o ρ1 F1 H1 v l S1 r m1 => by
    cases e : (peek ρ1 o).bind fun d => match d with
      | .err c fs => if c ∈ cs then fs.lookup f else none
      | _ => none with
    | none => rw [e] at m1; exact m1.elim
    | some d =>
      rw [e] at m1
      have m2 : At C (relE C.K) Z F1 σ Q (.ok (d, false) ρ1) := m1
      obtain ⟨x, p1, p2⟩ := Option.bind_eq_some_iff.mp e
      split at p2
      · rename_i c fs
        split at p2
        · rename_i hc
          obtain ⟨a, vs, rfl, ea, rf⟩ := (peek_rl S1 r p1).err
          obtain ⟨v, hv, w⟩ := (rf.lookup (f := f)).1 d p2
          exact ⟨F1, ρ1, a, c, vs, v, S1, rfl, hc, ea, hv, m2 F1 H1 v (Evl.Ex.refl F1) S1 w⟩
        · cases p2
      · cases p2
  refine attr_of hb (thn (ha.run pins s σ H _ I h1) fun u s1 ⟨y, H1, I1, ry, F1, ρ1, a, c, vs, w, S1, ey, hc, ea, hv, q⟩ => ?_)
  subst ey
  obtain rfl : u = Value.ref a := ry
  rw [← hk] at ea
  obtain ⟨ei, hno⟩ := hi.each c hc
  obtain ⟨oe, od, J, hl⟩ := (ea.le S1.fh).inst I1.hok
  obtain ⟨u, dd, rfl, hu, ru⟩ := hl f w hv
  exact HandSPX.exc_get I1.kIn J ei.hg ei.hk ei.hs (PySem.W.findObj_own ei.hd hno rfl hu) (handed_of ru) ⟨w, _, I1.tok _, ru, q⟩
end
section
variable {ρ : Rho} {QE : R (D × Bool) → Prop}
@[simp] theorem errC_e {c : Str} {fs : List (Str × D)} : errC (.err c fs) = some c := rfl
@[simp ↓] theorem w_isE {cs sup : List Str} {fo : Rho → R Opd} : wpR (sIsE cs sup fo ρ) QE = wpR (fo ρ) (ThR (fun o ρ1 => optR ((peek ρ1 o).bind errC) fun c => if c ∈ cs then .ok (.bl (decide (c ∈ sup)), false) ρ1 else .err) QE) := wp_bind
@[simp ↓] theorem w_fldE {cs : List Str} {f : Str} {fo : Rho → R Opd} : wpR (sFldE cs f fo ρ) QE = wpR (fo ρ) (ThR (fun o ρ1 => optR ((peek ρ1 o).bind fun d => match d with
  | .err c fs => if c ∈ cs then fs.lookup f else none
  | _ => none) fun d => .ok (d, false) ρ1) QE) := wp_bind
end
end Nu
namespace Nu
open PySem PySem.Spec PyProof.Rows L2
variable [WorldI]
section
variable {C : Cq} {Z Z' F F' H H' : Hp} {σ σ' : St} {ρ ρ' : Rho} {X : Cx} {K : PySem.W.Frag}
/-! ### errors are made -/
def sMkE (c : Str) (fs : List Str) (fa : Rho → R (List Opd)) (ρ : Rho) : R (D × Bool) := (fa ρ).bind fun os ρ1 => optR (valsN fs.length os) fun ds => .ok (.err c (fs.zip ds).reverse, false) ρ1
theorem made_upd {H1 : Hp} {a d Cc : Addr} {vs : List (Str × V)} : upd (upd (upd H1 a (exo a Cc none)) d (exd d vs)) a (exo a Cc (some d)) = upd (upd H1 d (exd d vs)) a (exo a Cc (some d)) := by
  funext b
  by_cases hb : b = a
  · subst hb; rw [upd_same, upd_same]
  · rw [upd_ne hb, upd_ne hb]
    by_cases hd : b = d
    · subst hd; rw [upd_same, upd_same]
    · rw [upd_ne hd, upd_ne hd, upd_ne hb]
theorem err_made {c : Str} {fs : List Str} {vs : List V} {ds : List D} {Q : V → Hp → Prop} {a d : Addr} {H1 F1 : Hp} {ρ1 : Rho} (S1 : SR C.K C.P Z F1 σ ρ1 H1) (rr : Rels C.K F1 vs ds) (m1 : At C (relE C.K) Z F1 σ Q (.ok (.err c (fs.zip ds).reverse, false) ρ1)) (na : H1 a = none) (nd : H1 d = none) (ned : d ≠ a) :
    Q (.ref a) (upd (upd H1 d (exd d (fs.zip vs).reverse)) a (exo a (He.ga C.K c) (some d))) := by
  have g1 : Grow F1 H1 (upd F1 d (exd d (fs.zip vs).reverse)) (upd H1 d (exd d (fs.zip vs).reverse)) := Grow.frz S1.fh nd
  have na2 : (upd H1 d (exd d (fs.zip vs).reverse)) a = none := by rw [upd_ne (Ne.symm ned)]; exact na
  have g2 : Grow (upd F1 d (exd d (fs.zip vs).reverse)) (upd H1 d (exd d (fs.zip vs).reverse)) (upd (upd F1 d (exd d (fs.zip vs).reverse)) a (exo a (He.ga C.K c) (some d))) (upd (upd H1 d (exd d (fs.zip vs).reverse)) a (exo a (He.ga C.K c) (some d))) := Grow.frz g1.fh na2
  have gr := g1.trans g2
  exact m1 _ _ _ gr.ff (S1.grow gr) (Rel.err upd_same (by rw [upd_ne ned]; exact upd_same) ((relF_zip (rr.mono gr.ff)).rev))
theorem de_mkE {c : Str} {fs : List Str} {k : Nat} {e : Expr} {es : List Expr} {fa : Rho → R (List Opd)} {p pos : Pos} (hk : X.K = C.K) (G : MkX X k c fs) (hr : Room (k + 1) X.A) (tk : L2N.Takes X C.W) (hg : Gl X c) (hm : X.mg c = some (.ref (He.ga X.K c))) (ha : PA X (e :: es) (tA C fa))
    (hdb : (c == ("__debug__" : Str)) = false := by decide) (he : starEach (e :: es) X.env = (false, eval e X.env) :: starEach es X.env := by rfl) (hpl : (backTo pos (starEach es X.env)).any (·.1) = false := by rfl) :
    PE X (.Call (.Name c p) (e :: es) [] pos) (tE C (sMkE c fs fa)) := by
  refine ⟨fun pins s σ H Q I ⟨Z, F, ρ, S, h⟩ => ?_⟩
  have h1 : tA C fa σ H (fun vs H1 => ∃ F1 ρ1 ds, SR C.K C.P Z F1 σ ρ1 H1 ∧ Rels C.K F1 vs ds ∧ vs.length = fs.length ∧ vs.length ≤ 1000 ∧ At C (relE C.K) Z F1 σ Q (.ok (.err c (fs.zip ds).reverse, false) ρ1)) := tG.step S h fun os ρ1 F1 H1 vs l1 S1 r1 m1 => by
    cases e1 : vals os with
    | none =>
      have z : valsN fs.length os = none := by unfold valsN; rw [e1]; rfl
      rw [z] at m1; exact m1.elim
    | some ds =>
      have rr := vals_rels r1 e1
      by_cases hl : ds.length = fs.length ∧ ds.length ≤ 1000
      · have z : valsN fs.length os = some ds := by unfold valsN; rw [e1]; exact if_pos hl
        rw [z] at m1
        exact ⟨F1, ρ1, ds, S1, rr, rr.length.trans hl.1, by rw [rr.length]; exact hl.2, m1⟩
      · have z : valsN fs.length os = none := by unfold valsN; rw [e1]; exact if_neg hl
        rw [z] at m1; exact m1.elim
  have tk0 : L2N.Takes X (fun _ _ _ _ => False) := tk.imp fun _ _ _ _ z => z.elim
  obtain ⟨fd, ps, g, hbd⟩ := G.ex
  have T := G.M.T
  obtain ⟨nm, qn, ns, bs, bm, sn, sub, ab, col, dd, k0, k1, k2, k3, k5, nid, tl, atC, isV, B, ini, bf⟩ := T.clsB
  refine wpAny_Call_Name_kw (ld_glob I hg hm (PySem.W.callWith_K (h₀ := X.base) I.ok.mod.kin T.kC (thn (ha.run pos pins s σ H _ I h1) fun us s1 ⟨vs, H1, I1, r1, F1, ρ1, ds, S1, rr, hl, hz, m1⟩ => ⟨I1.kIn, ?_⟩) he hpl) hdb)
  show wpAny _ _ (call (.ref (He.ga X.K c)) us) _ _ _
  obtain ⟨hp, gn, dr, tk1, os⟩ := s1
  have new1 : H1 (hp.objs.size + 1) = none := I1.hok.fresh (Nat.le_succ _)
  have grow : ∀ b o, hp.get? b = some o → ((hp.push (PySem.W.kdv_tup us)).push (PySem.HandSPX.excO (He.ga X.K c) hp.objs.size)).get? b = some o := fun b o z => Heap.get?_push_of_some _ (Heap.get?_push_of_some _ z)
  have there : ((hp.push (PySem.W.kdv_tup us)).push (PySem.HandSPX.excO (He.ga X.K c) hp.objs.size)).get? (hp.objs.size + 1) = some (PySem.HandSPX.excO (He.ga X.K c) hp.objs.size) := by heap_get
  have I2 := I1.laid (t' := tk1) (a := hp.objs.size + 1) (o := exo (hp.objs.size + 1) (He.ga X.K c) none) grow (Nat.le_succ _) (exo_ok there)
  have rel2 : Vals (V.ref (hp.objs.size + 1) :: vs) (Value.ref (hp.objs.size + 1) :: us) := .cons rfl r1
  have size : us.length ≤ sizeLine := by rw [← r1.length, sizeLine_eq]; omega
  obtain ⟨ts, rt, bnd⟩ := hbd.to _ (Value.ref (hp.objs.size + 1) :: us) [] [] I2.kIn (by rw [List.length_cons, ← r1.length, hl]) rfl .nil
  have et : ts = [] := by cases rt; rfl
  subst et
  refine wpAny_call (PySem.HandSPX.call_own bf (fun Y => upTo_has Y bm isV) (I1.kIn _ _ atC) (PySem.W.looks_findIn I1.kIn G.M.iC) (fun self => PySem.W.bind_fn I1.kIn self G.M.tI) size (codeAny_mono (g.run _ X.stack _ _ ⟨Value.ref (hp.objs.size + 1) :: us, []⟩ (Value.ref (hp.objs.size + 1) :: us ++ []) (V.ref (hp.objs.size + 1) :: vs)
    (fun v H2 => v = .non ∧ ∃ d, H1 d = none ∧ d ≠ hp.objs.size + 1 ∧ H2 = upd (upd (upd H1 (hp.objs.size + 1) (exo (hp.objs.size + 1) (He.ga X.K c) none)) d (exd d (fs.zip vs).reverse)) (hp.objs.size + 1) (exo (hp.objs.size + 1) (He.ga X.K c) (some d))) (fun _ _ _ => False)
    (hr.make (He.ga X.K c) us []) (I2.env0.make (He.ga X.K c) us []) bnd (by rw [List.append_nil]; exact rel2) ⟨_, vs, rfl, hl, upd_same, fun dx n ne => ⟨rfl, dx, by rw [upd_ne ne] at n; exact n, ne, rfl⟩⟩) fun r s' hq => ?_))
  cases r with
  | error er => exact tk0 _ _ (L2N.XE.of_call I2 (fun _ _ _ z => z) hq)
  | ok fl =>
    cases fl with
    | ret u =>
      obtain ⟨v, H2, I3, rv, ev, d, nd, ned, eH⟩ := I2.after hq
      subst ev
      rw [made_upd] at eH
      subst eH
      have q := err_made S1 rr m1 new1 nd ned
      rw [← hk] at q
      exact ⟨rv, ⟨V.ref (hp.objs.size + 1), _, I3, rfl, q⟩⟩
    | next => exact False.elim hq
    | brk => exact False.elim hq
    | cont => exact False.elim hq
end
section
variable {ρ : Rho} {QE : R (D × Bool) → Prop}
@[simp ↓] theorem w_mkE {c : Str} {fs : List Str} {fa : Rho → R (List Opd)} : wpR (sMkE c fs fa ρ) QE = wpR (fa ρ) (ThR (fun os ρ1 => optR (valsN fs.length os) fun ds => .ok (.err c (fs.zip ds).reverse, false) ρ1) QE) := wp_bind
end
end Nu
namespace Nu
open PySem PySem.Spec PyProof.Rows L2
variable [WorldI]
section
variable {C : Cq} {Z Z' F F' H H' : Hp} {σ σ' : St} {ρ ρ' : Rho} {X : Cx} {K : PySem.W.Frag}
/-! ### errors made by keywords alone -/
structure MkXK (X : Cx) (k : Nat) (c : Str) (fs ks : List Str) (tl : List (Nat ⊕ D)) : Prop where
  M : ExM X.K c
  ex : ∃ fd ps tv, FnOk X.prog X.w X.K X.mg X.base (L2N.CX X.prog X.w) k (He.ma X.K (He.ga X.K c) "__init__") fd ps (spX (He.ga X.K c) fs) ∧ Bd X.K fd ps 1 ks tv ∧ TlR X.K tv tl
def kwE (c : Str) (fs : List Str) (nk : Nat) (tl : List (Nat ⊕ D)) (os : List Opd) : Option D := (valsN nk os).bind fun ds => (tailD ds tl).bind fun es => if es.length = fs.length then some (.err c (fs.zip es).reverse) else none
def sMkEk (c : Str) (fs : List Str) (nk : Nat) (tl : List (Nat ⊕ D)) (fk : Rho → R (List Opd)) (ρ : Rho) : R (D × Bool) := (fk ρ).bind fun os ρ1 => optR (kwE c fs nk tl os) fun d => .ok (d, false) ρ1
theorem de_mkEk {c : Str} {fs ks : List Str} {k nk : Nat} {tl : List (Nat ⊕ D)} {kws : List Keyword} {fk : Rho → R (List Opd)} {p pos : Pos} (hk : X.K = C.K) (G : MkXK X k c fs ks tl) (hr : Room (k + 1) X.A) (tk : L2N.Takes X C.W) (hg : Gl X c) (hm : X.mg c = some (.ref (He.ga X.K c))) (hkw : PK X kws (tA C fk)) (hn : ks.length = nk)
    (hall : (backToKw pos (keywordEach kws X.env)).all (·.1.isSome) = true := by rfl) (hks : (backToKw pos (keywordEach kws X.env)).filterMap (·.1) = ks := by rfl) (hdb : (c == ("__debug__" : Str)) = false := by decide)
    (hpl : ((backTo pos (starEach [] X.env)).any (·.1) || (backToKw pos (keywordEach kws X.env)).any (·.1.isNone)) = false := by rfl) :
    PE X (.Call (.Name c p) [] kws pos) (tE C (sMkEk c fs nk tl fk)) := by
  refine ⟨fun pins s σ H Q I ⟨Z, F, ρ, S, h⟩ => ?_⟩
  subst hn
  have h1 : tA C fk σ H (fun vs H1 => ∃ F1 ρ1 ds es, SR C.K C.P Z F1 σ ρ1 H1 ∧ Rels C.K F1 vs ds ∧ vs.length = ks.length ∧ tailD ds tl = some es ∧ es.length = fs.length ∧ At C (relE C.K) Z F1 σ Q (.ok (.err c (fs.zip es).reverse, false) ρ1)) := tG.step S h fun os ρ1 F1 H1 vs l1 S1 r1 m1 => by
    cases e0 : kwE c fs ks.length tl os with
    | none => rw [e0] at m1; exact m1.elim
    | some d0 =>
      rw [e0] at m1
      obtain ⟨ds, e1, e2⟩ := Option.bind_eq_some_iff.mp e0
      obtain ⟨es, e3, e4⟩ := Option.bind_eq_some_iff.mp e2
      obtain ⟨ds', e5, e6⟩ := Option.bind_eq_some_iff.mp e1
      split at e4
      · rename_i hl
        cases e4
        split at e6
        · rename_i hz
          cases e6
          have rr := vals_rels r1 e5
          exact ⟨F1, ρ1, ds, es, S1, rr, rr.length.trans hz.1, e3, hl, m1⟩
        · cases e6
      · cases e4
  have tk0 : L2N.Takes X (fun _ _ _ _ => False) := tk.imp fun _ _ _ _ z => z.elim
  obtain ⟨fd, ps, tv, g, hbd, htl⟩ := G.ex
  rw [hk] at htl
  have T := G.M.T
  obtain ⟨nm, qn, ns, bs, bm, sn, sub, ab, col, dd, k0, k1, k2, k3, k5, nid, tlC, atC, isV, B, ini, bf⟩ := T.clsB
  refine wpAny_Call_Name_kw (ld_glob I hg hm (PySem.W.callWith_KW0 (h₀ := X.base) I.ok.mod.kin T.kC hall (thn (hkw.run pos pins s σ H _ I h1) fun ws s1 ⟨zs, H1, I1, r1, F1, ρ1, ds, es, S1, rr, hl, ht, hle, m1⟩ => ⟨I1.kIn, ?_⟩) hpl) hdb)
  rw [hks]
  show wpAny _ _ (call (.ref (He.ga X.K c)) [] (ks.zip ws)) _ _ _
  obtain ⟨hp, gn, dr, tk1, os⟩ := s1
  have new1 : H1 (hp.objs.size + 1) = none := I1.hok.fresh (Nat.le_succ _)
  have grow : ∀ b o, hp.get? b = some o → ((hp.push (PySem.W.kdv_tup [])).push (PySem.HandSPX.excO (He.ga X.K c) hp.objs.size)).get? b = some o := fun b o z => Heap.get?_push_of_some _ (Heap.get?_push_of_some _ z)
  have there : ((hp.push (PySem.W.kdv_tup [])).push (PySem.HandSPX.excO (He.ga X.K c) hp.objs.size)).get? (hp.objs.size + 1) = some (PySem.HandSPX.excO (He.ga X.K c) hp.objs.size) := by heap_get
  have I2 := I1.laid (t' := tk1) (a := hp.objs.size + 1) (o := exo (hp.objs.size + 1) (He.ga X.K c) none) grow (Nat.le_succ _) (exo_ok there)
  obtain ⟨ts, rt, bnd⟩ := hbd.to ⟨_, gn, dr, tk1, os⟩ [Value.ref (hp.objs.size + 1)] ws zs I2.kIn rfl (r1.length.symm.trans hl) r1
  have rT : Rels C.K F1 (tailV zs tv) es := tail_rels rr htl ht
  have rel2 : Vals (V.ref (hp.objs.size + 1) :: tailV zs tv) (Value.ref (hp.objs.size + 1) :: ts) := .cons rfl rt
  refine wpAny_call (PySem.NuKG.call_own_k bf (fun Y => upTo_has Y bm isV) (I1.kIn _ _ atC) (PySem.W.looks_findIn I1.kIn G.M.iC) (fun self => PySem.W.bind_fn I1.kIn self G.M.tI) (Nat.zero_le _) (codeAny_mono (g.run _ X.stack _ _ ⟨[Value.ref (hp.objs.size + 1)], ks.zip ws⟩ ([Value.ref (hp.objs.size + 1)] ++ ts) (V.ref (hp.objs.size + 1) :: tailV zs tv)
    (fun v H2 => v = .non ∧ ∃ d, H1 d = none ∧ d ≠ hp.objs.size + 1 ∧ H2 = upd (upd (upd H1 (hp.objs.size + 1) (exo (hp.objs.size + 1) (He.ga X.K c) none)) d (exd d (fs.zip (tailV zs tv)).reverse)) (hp.objs.size + 1) (exo (hp.objs.size + 1) (He.ga X.K c) (some d))) (fun _ _ _ => False)
    (hr.make (He.ga X.K c) [] (ks.zip ws)) (I2.env0.make (He.ga X.K c) [] (ks.zip ws)) bnd rel2 ⟨_, _, rfl, rT.length.trans hle, upd_same, fun dx n ne => ⟨rfl, dx, by rw [upd_ne ne] at n; exact n, ne, rfl⟩⟩) fun r s' hq => ?_))
  cases r with
  | error er => exact tk0 _ _ (L2N.XE.of_call I2 (fun _ _ _ z => z) hq)
  | ok fl =>
    cases fl with
    | ret u =>
      obtain ⟨v, H2, I3, rv, ev, d, nd, ned, eH⟩ := I2.after hq
      subst ev
      rw [made_upd] at eH
      subst eH
      have q := err_made S1 rT m1 new1 nd ned
      rw [← hk] at q
      exact ⟨rv, ⟨V.ref (hp.objs.size + 1), _, I3, rfl, q⟩⟩
    | next => exact False.elim hq
    | brk => exact False.elim hq
    | cont => exact False.elim hq
end
section
variable {ρ : Rho} {QE : R (D × Bool) → Prop}
@[simp ↓] theorem w_mkEk {c : Str} {fs : List Str} {nk : Nat} {tl : List (Nat ⊕ D)} {fk : Rho → R (List Opd)} : wpR (sMkEk c fs nk tl fk ρ) QE = wpR (fk ρ) (ThR (fun os ρ1 => optR (kwE c fs nk tl os) fun d => .ok (d, false) ρ1) QE) := wp_bind
end
end Nu
namespace Nu
open PySem PySem.Spec PyProof.Rows L2
variable [WorldI]
section
variable {C : Cq} {Z Z' F F' H H' : Hp} {σ σ' : St} {ρ ρ' : Rho} {X : Cx} {K : PySem.W.Frag}
/-! ### errors of classes without __init__ -/
structure E0M (K : PySem.W.Frag) (c : Str) : Prop where
  q : PySem.W.excIn K (He.ga K c) (tailOf "LookupError") "LookupError.__new__" = true
  kp : PySem.W.keepIn K (.ref (He.ga K c)) = true
theorem fE0M_ok {c : Str} (h : fE0M c K = true) : E0M K c := by
  obtain ⟨h1, h2⟩ := He.ba h
  exact ⟨h1, h2⟩
def sMkE0 (c : Str) (ρ : Rho) : R (D × Bool) := .ok (.err c [], false) ρ
theorem de_mkE0 {c : Str} {p pos : Pos} (hk : X.K = C.K) (G : E0M X.K c) (hg : Gl X c) (hm : X.mg c = some (.ref (He.ga X.K c))) (hdb : (c == ("__debug__" : Str)) = false := by decide) : PE X (.Call (.Name c p) [] [] pos) (tE C (sMkE0 c)) := by
  refine ⟨fun pins s σ H Q I ⟨Z, F0, ρ, S, h⟩ => ?_⟩
  refine wpAny_Call_Name_kw (ld_glob I hg hm (PySem.W.callWith_K0 I.kIn G.kp ?_) hdb)
  obtain ⟨bm, N, nm, qn, bs, hdct, sn, sub, ab, col, dd, k0, k1, k2, k3, k5, mN, hC, hN, hni, T⟩ := exc_obj I.kIn G.q
  refine wpAny_call_exc_subT F.excBase_LookupError T hC hN hni (fun h' a hm => ?_) (by show 0 ≤ sizeLine; rw [sizeLine_eq]; omega)
  have hn : H a = none := I.hok.gone hm.new
  obtain ⟨t, ht, _, _⟩ := hm.there
  have g : Grow F0 H (upd F0 a (ExO (.ref (He.ga C.K c)) a)) (upd H a (ExO (.ref (He.ga C.K c)) a)) := Grow.frz S.fh hn
  have q := h _ _ (.ref a) g.ff (S.grow g) (Rel.err0 upd_same)
  rw [← hk] at q
  exact ⟨.ref a, _, I.laidN hm.keeps hm.new hn (exO_ok ht ⟨rfl, rfl⟩ rfl rfl rfl (show 4 < 6 by decide)), rfl, q⟩
end
section
variable {ρ : Rho} {QE : R (D × Bool) → Prop}
@[simp ↓] theorem w_mkE0 {c : Str} : wpR (sMkE0 c ρ) QE = wpR (.ok (.err c [], false) ρ) QE := (rfl)
end
end Nu
namespace Nu
open PySem PySem.Spec PyProof.Rows L2
variable [WorldI]
/-! ## repr of lists and tuples in which lists, tuples and empty dicts stand -/
mutual
inductive RdS (h : Heap) : Value → PyData → Prop
  | none : RdS h .none .none
  | bool (b) : RdS h (.bool b) (.bool b)
  | int (i t) : RdS h (.int i t) (.int i)
  | str (x t) : RdS h (.str x t) (.str x)
  | list {a o vs n xs} : h.get? a = some o → o.cls = .type "list" → o.data = .seq vs n → RdSA h vs.toList xs → RdS h (.ref a) (.list xs)
  | tuple {a o vs n xs} : h.get? a = some o → o.cls = .type "tuple" → o.data = .seq vs n → RdSA h vs.toList xs → RdS h (.ref a) (.tuple xs)
  | emp {a o es n} : h.get? a = some o → o.cls = .type "dict" → o.data = .dict es n → es.toList = [] → (a == sysModules) = false → RdS h (.ref a) (.dict [])
inductive RdSA (h : Heap) : List Value → List PyData → Prop
  | nil : RdSA h [] []
  | cons {v vs d ds} : RdS h v d → RdSA h vs ds → RdSA h (v :: vs) (d :: ds)
end
section
variable {prog : Program} {w : World} {h₀ : Heap}
mutual
theorem RdS.reads : ∀ {v : Value} {d : PyData}, RdS h₀ v d → ∃ as, Reads h₀ v d as
  | _, _, .none => ⟨_, .none⟩
  | _, _, .bool b => ⟨_, .bool b⟩
  | _, _, .int i t => ⟨_, .int i t⟩
  | _, _, .str x t => ⟨_, .str x t⟩
  | _, _, .list h1 h2 h3 h4 => let ⟨_, r⟩ := RdSA.reads h4; ⟨_, .list h1 h2 h3 r⟩
  | _, _, .tuple h1 h2 h3 h4 => let ⟨_, r⟩ := RdSA.reads h4; ⟨_, .tuple h1 h2 h3 r⟩
  | _, _, .emp h1 h2 h3 h4 _ => ⟨_, .dict h1 h2 h3 (by rw [h4]; exact .nil) (by rw [h4]; exact .nil)⟩
theorem RdSA.reads : ∀ {vs : List Value} {ds : List PyData}, RdSA h₀ vs ds → ∃ as, ReadsAll h₀ vs ds as
  | _, _, .nil => ⟨_, .nil⟩
  | _, _, .cons h1 h2 => let ⟨_, r⟩ := RdS.reads h1; let ⟨_, r2⟩ := RdSA.reads h2; ⟨_, .cons r r2⟩
end
mutual
theorem RdS.k : ∀ {v : Value} {d : PyData}, RdS h₀ v d → d.showable = true → d.shown.length ≤ sizeLine → ∃ bs, ReadAtMost h₀ d.depth bs ∧ ReprK prog w bs h₀ d.depth v d.shown
  | _, _, .none, _, _ => ReprK.of_reads Reads.none (by simp [PyData.showable]) (by simp [PyData.hasDict]) (by assumption)
  | _, _, .bool b, _, _ => ReprK.of_reads (Reads.bool b) (by simp [PyData.showable]) (by simp [PyData.hasDict]) (by assumption)
  | _, _, .int i t, hs, hz => ReprK.of_reads (Reads.int i t) hs (by simp [PyData.hasDict]) hz
  | _, _, .str x t, hs, hz => ReprK.of_reads (Reads.str x t) hs (by simp [PyData.hasDict]) hz
  | _, _, .list (a := a) (vs := vs) (xs := xs) h1 h2 h3 h4, hs, hz => by
    have hz' : (listText (PyData.shownAll xs)).length ≤ sizeLine := by simpa only [PyData.shown] using hz
    obtain ⟨bs, hb, hk⟩ := RdSA.k h4 (by simpa [PyData.showable] using hs) (fun t ht => Nat.le_trans (listText_mem_le ht) hz')
    obtain ⟨as, rr⟩ := h4.reads
    have r : Reads h₀ (.ref a) (.list xs) _ := .list h1 h2 h3 rr
    have hna : a ∉ bs := not_mem_of_deeper r (by simp only [PyData.depth]; omega) hb
    refine ⟨a :: bs, ReadAtMost.cons r (by simp only [PyData.depth]; omega) hb, ?_⟩
    simp only [PyData.depth, PyData.shown]
    obtain ⟨l⟩ := vs
    cases l with
    | nil =>
      have h4' : ReadsAll h₀ [] xs _ := rr
      cases h4'
      simp only [PyData.shownAll, listText_nil]
      exact ReprK.listEmpty h1 h2 h3
    | cons x l => exact ReprK.list h1 h2 h3 hna (by simpa using hk.length_eq) (fun i y e => hk.item i y (by simpa using e))
  | _, _, .tuple (a := a) (xs := xs) h1 h2 h3 h4, hs, hz => by
    have hz' : (tupleText (PyData.shownAll xs)).length ≤ sizeLine := by simpa only [PyData.shown] using hz
    obtain ⟨bs, hb, hk⟩ := RdSA.k h4 (by simpa [PyData.showable] using hs) (fun t ht => Nat.le_trans (tupleText_mem_le ht) hz')
    obtain ⟨as, rr⟩ := h4.reads
    have r : Reads h₀ (.ref a) (.tuple xs) _ := .tuple h1 h2 h3 rr
    have hna : a ∉ bs := not_mem_of_deeper r (by simp only [PyData.depth]; omega) hb
    refine ⟨a :: bs, ReadAtMost.cons r (by simp only [PyData.depth]; omega) hb, ?_⟩
    simp only [PyData.depth, PyData.shown]
    exact ReprK.tuple h1 h2 h3 hna hk
  | _, _, .emp (a := a) h1 h2 h3 h4 h5, hs, hz => by
    have rd : Reads h₀ (.ref a) (.dict []) (a :: [] ++ []) := .dict h1 h2 h3 (by rw [h4]; exact .nil) (by rw [h4]; exact .nil)
    refine ReprK.of_reads rd hs (fun _ hm => ?_) hz
    have : sysModules = a := by simpa using hm
    rw [← this] at h5
    simp at h5
theorem RdSA.k : ∀ {vs : List Value} {ds : List PyData}, RdSA h₀ vs ds → PyData.showableAll ds = true → (∀ t ∈ PyData.shownAll ds, t.length ≤ sizeLine) →
    ∃ bs, ReadAtMost h₀ (PyData.depthAll ds) bs ∧ ReprAllK prog w bs h₀ (PyData.depthAll ds) vs (PyData.shownAll ds)
  | _, _, .nil, _, _ => ⟨[], (fun _ h => nomatch h), by simp only [PyData.shownAll]; exact .nil⟩
  | _, _, .cons (d := d) (ds := ds) r rs, hs, hz => by
    have hs' : d.showable = true ∧ PyData.showableAll ds = true := by simpa [PyData.showableAll] using hs
    obtain ⟨b1, hb1, k1⟩ := RdS.k r hs'.1 (hz _ (by simp only [PyData.shownAll]; exact List.mem_cons_self ..))
    obtain ⟨b2, hb2, k2⟩ := RdSA.k rs hs'.2 (fun t ht => hz t (by simp only [PyData.shownAll]; exact List.mem_cons_of_mem _ ht))
    refine ⟨b1 ++ b2, ?_, ?_⟩
    · intro b hm
      simp only [PyData.depthAll]
      rcases List.mem_append.mp hm with hm | hm
      · obtain ⟨d', as', r', hd'⟩ := hb1 b hm
        exact ⟨d', as', r', Nat.le_trans hd' (Nat.le_max_left _ _)⟩
      · obtain ⟨d', as', r', hd'⟩ := hb2 b hm
        exact ⟨d', as', r', Nat.le_trans hd' (Nat.le_max_right _ _)⟩
    · simp only [PyData.depthAll, PyData.shownAll]
      exact .cons ((k1.more fun b hb => List.mem_append_left _ hb).level_le (Nat.le_max_left _ _)) (k2.more_le (fun b hb => List.mem_append_right _ hb) (Nat.le_max_right _ _))
end
theorem RdS.shows {a : Addr} {d : PyData} (r : RdS h₀ (.ref a) d) (hs : d.showable = true) (hsz : d.shown.length ≤ sizeLine) : ∃ T idr, ShowsBy prog w h₀ a d T idr := by
  cases r with
  | list h1 h2 h3 h4 =>
    rename_i o vs n xs
    have hz' : (listText (PyData.shownAll xs)).length ≤ sizeLine := by simpa only [PyData.shown] using hsz
    obtain ⟨bs, hb, hk⟩ := RdSA.k (prog := prog) (w := w) h4 (by simpa [PyData.showable] using hs) (fun t ht => Nat.le_trans (listText_mem_le ht) hz')
    obtain ⟨as, rr⟩ := h4.reads
    have hna : a ∉ bs := not_mem_of_deeper (.list h1 h2 h3 rr) (by simp only [PyData.depth]; omega) hb
    refine ⟨"list", "list.__repr__", PySem.F.slot_list_repr.toG, PySem.F.slot_list_str, PySem.F.slot_list_format, fun s hk0 => ⟨o, hk0 _ _ h1, h2⟩, fun A E s Q hg hu hk0 hQ => ?_⟩
    simp only [PyData.depth] at hu
    simp only [PyData.shown] at hQ
    obtain ⟨l⟩ := vs
    cases l with
    | nil =>
      have h4' : ReadsAll h₀ [] xs _ := rr
      cases h4'
      simp only [PyData.shownAll, listText_nil] at hQ
      exact call_list_repr_empty ⟨o, hk0 _ _ h1, h2⟩ (hk0 _ _ h1) h3 (hQ s.heap _ _ fun _ _ e => e)
    | cons x l =>
      exact call_list_reprK h1 h2 h3 hna (by simpa using hk.length_eq) (fun i y e => hk.item i y (by simpa using e)) hg (fun b _ => Clear.nil b) hu hk0 hQ hz'
  | tuple h1 h2 h3 h4 =>
    rename_i o vs n xs
    have hz' : (tupleText (PyData.shownAll xs)).length ≤ sizeLine := by simpa only [PyData.shown] using hsz
    obtain ⟨bs, hb, hk⟩ := RdSA.k (prog := prog) (w := w) h4 (by simpa [PyData.showable] using hs) (fun t ht => Nat.le_trans (tupleText_mem_le ht) hz')
    obtain ⟨as, rr⟩ := h4.reads
    have hna : a ∉ bs := not_mem_of_deeper (.tuple h1 h2 h3 rr) (by simp only [PyData.depth]; omega) hb
    refine ⟨"tuple", "tuple.__repr__", PySem.F.slot_tuple_repr, PySem.F.slot_tuple_str, PySem.F.slot_tuple_format, fun s hk0 => ⟨o, hk0 _ _ h1, h2⟩, fun A E s Q hg hu hk0 hQ => ?_⟩
    simp only [PyData.depth] at hu
    simp only [PyData.shown] at hQ
    exact call_tuple_reprK h1 h2 h3 hna hk hg (fun b _ => Clear.nil b) hu hk0 hQ hz'
  | emp h1 h2 h3 h4 h5 =>
    have rd : Reads h₀ (.ref a) (.dict []) (a :: [] ++ []) := .dict h1 h2 h3 (by rw [h4]; exact .nil) (by rw [h4]; exact .nil)
    refine showsBy_of_reads rd hs (fun _ hm => ?_) hsz
    have : sysModules = a := by simpa using hm
    rw [← this] at h5
    simp at h5
end
section
variable {C : Cq} {Z Z' F F' H H' : Hp} {σ σ' : St} {ρ ρ' : Rho} {X : Cx} {K : PySem.W.Frag} {pins : List (Addr × Obj)} {s : Shared}
mutual
def toPyU : D → Option PyData
  | .non => some .none
  | .bl b => some (.bool b)
  | .int i => some (.int i)
  | .str x => some (.str (toStr x))
  | .tup ds => (toPysU ds).map .tuple
  | .lst ds => (toPysU ds).map .list
  | .scr _ => none
  | .ty _ => none
  | .cls _ => none
  | .obj _ _ => none
  | .exc _ _ _ => none
  | .emp => some (.dict [])
  | .adr _ => none
  | .fix _ _ => none
  | .err _ _ => none
  | .dic _ => none
def toPysU : List D → Option (List PyData)
  | [] => some []
  | d :: r => (toPyU d).bind fun x => (toPysU r).map (x :: ·)
end
mutual
inductive Du (K : PySem.W.Frag) (H : Hp) : V → PyData → Prop
  | non : Du K H .non .none
  | bl (b : Bool) : Du K H (.bl b) (.bool b)
  | int (i : Int) : Du K H (.int i) (.int i)
  | str (x : Str) : Du K H (.str x) (.str x)
  | tup {a : Addr} {xs : List V} {ds : List PyData} : SqT K H a xs → DuAll K H xs ds → Du K H (.ref a) (.tuple ds)
  | lst {a : Addr} {xs : List V} {ds : List PyData} : SqL K H a xs → DuAll K H xs ds → Du K H (.ref a) (.list ds)
  | emp {a : Addr} : H a = some (.dK []) → Du K H (.ref a) (.dict [])
inductive DuAll (K : PySem.W.Frag) (H : Hp) : List V → List PyData → Prop
  | nil : DuAll K H [] []
  | cons {v : V} {vs : List V} {d : PyData} {ds : List PyData} : Du K H v d → DuAll K H vs ds → DuAll K H (v :: vs) (d :: ds)
end
mutual
theorem Rel.du (l : Le F H) : ∀ {v : V} {d : D} {p : PyData}, Rel K F v d → toPyU d = some p → Du K H v p
  | _, _, _, .non, e => by unfold toPyU at e; cases e; exact .non
  | _, _, _, .bl b, e => by unfold toPyU at e; cases e; exact .bl b
  | _, _, _, .int i, e => by unfold toPyU at e; cases e; exact .int i
  | _, _, _, .str x, e => by unfold toPyU at e; cases e; exact .str _
  | _, _, _, .ty n, e => by unfold toPyU at e; cases e
  | _, _, _, .cls n, e => by unfold toPyU at e; cases e
  | _, _, _, .tup h r, e => by
    unfold toPyU at e
    obtain ⟨q, e1, e2⟩ := Option.map_eq_some_iff.mp e
    subst e2
    exact .tup (sqT_h l h) (Rels.du l r e1)
  | _, _, _, .lst h r, e => by
    unfold toPyU at e
    obtain ⟨q, e1, e2⟩ := Option.map_eq_some_iff.mp e
    subst e2
    exact .lst (.of (l _ _ h)) (Rels.du l r e1)
  | _, _, _, .scr h r, e => by unfold toPyU at e; cases e
  | _, _, _, .obj _ _, e => by unfold toPyU at e; cases e
  | _, _, _, .exc _ _, e => by unfold toPyU at e; cases e
  | _, _, _, .emp h, e => by unfold toPyU at e; cases e; exact .emp (l _ _ h)
  | _, _, _, .adr, e => by unfold toPyU at e; cases e
  | _, _, _, .fix _, e => by unfold toPyU at e; cases e
  | _, _, _, .err _ _ _, e => by unfold toPyU at e; cases e
  | _, _, _, .err0 _, e => by unfold toPyU at e; cases e
  | _, _, _, .dic _ _ _ _, e => by unfold toPyU at e; cases e
theorem Rels.du (l : Le F H) : ∀ {v : List V} {d : List D} {p : List PyData}, Rels K F v d → toPysU d = some p → DuAll K H v p
  | _, _, _, .nil, e => by unfold toPysU at e; cases e; exact .nil
  | _, _, _, .cons h r, e => by
    unfold toPysU at e
    obtain ⟨q, e1, e2⟩ := Option.bind_eq_some_iff.mp e
    obtain ⟨q2, e3, e4⟩ := Option.map_eq_some_iff.mp e2
    subst e4
    exact .cons (Rel.du l h e1) (Rels.du l r e3)
end
theorem Rl.du {v : V} {d : D} {p : PyData} (l : Le F H) (h : Rl K F H v d) (e : toPyU d = some p) : Du K H v p := by
  rcases h with h | ⟨a, rfl, w⟩
  · exact h.du l e
  · cases d with
    | lst ds =>
      obtain ⟨vs, q, r⟩ := w
      unfold toPyU at e
      obtain ⟨p', e1, e2⟩ := Option.map_eq_some_iff.mp e
      subst e2
      exact .lst (.of q) (r.du l e1)
    | obj c fs => unfold toPyU at e; cases e
    | dic es => unfold toPyU at e; cases e
    | _ => exact w.elim
mutual
theorem Du.rd (I : Inv X pins σ H s) : ∀ {v : V} {d : PyData} {u : Value}, Du X.K H v d → RelV v u → RdS s.heap u d
  | _, _, _, .non, r => by cases r; exact .none
  | _, _, _, .bl b, r => by cases r; exact .bool b
  | _, _, _, .int i, r => by obtain ⟨t, rfl⟩ := r; exact .int i t
  | _, _, _, .str x, r => by obtain ⟨t, rfl⟩ := r; exact .str x t
  | _, _, _, .tup hs ha, r => by
    cases r
    obtain ⟨its, rv, ⟨o, ho, hc, n, hd⟩, _⟩ := I.tuple hs
    exact .tuple ho hc hd (by simpa using Du.rdAll I ha rv)
  | _, _, _, .lst hs ha, r => by
    cases r
    obtain ⟨its, rv, ⟨o, n, ho, hc, _, hd⟩, _⟩ := I.list hs
    exact .list ho hc hd (by simpa using Du.rdAll I ha rv)
  | _, _, _, .emp (a := a) ha, r => by
    cases r
    obtain ⟨_, ns, vs, kv, o, es, ep, ho, hd, he, _, hes, _⟩ := I.hok a _ ha
    have ev : vs = [] := by cases kv; rfl
    subst ev
    have ee : es.toList = [] := by
      cases z : es.toList with
      | nil => rfl
      | cons _ _ => rw [z] at hes; cases hes
    exact .emp ho hd.1 he ee ns
theorem Du.rdAll (I : Inv X pins σ H s) : ∀ {vs : List V} {ds : List PyData} {us : List Value}, DuAll X.K H vs ds → Vals vs us → RdSA s.heap us ds
  | _, _, _, .nil, r => by cases r; exact .nil
  | _, _, _, .cons h1 h2, r => by
    cases r with
    | cons r1 r2 => exact .cons (Du.rd I h1 r1) (Du.rdAll I h2 r2)
end
def shwU (d : D) : Option (List Cp) := match d with
  | .tup _ => (toPyU d).bind fun p => if fitT p = true then some (ofStr p.shown) else none
  | .lst _ => (toPyU d).bind fun p => if fitT p = true then some (ofStr p.shown) else none
  | _ => none
def gReprU (xs : List D) : Option (D × Bool) := match gRepr xs with
  | some r => some r
  | none => (match xs with
    | [d] => (shwU d).map fun x => (.str x, false)
    | _ => none)
def rReprU (K : PySem.W.Frag) : List V → Hp → VK → Prop := fun xs H Q => rRepr K xs H Q ∨ ∃ a p, xs = [.ref a] ∧ Du K H (.ref a) p ∧ fitT p = true ∧ Q (.str (PyData.shown p)) H
theorem Rl.ref_of {v : V} {d : D} (h : Rl K F H v d) (e : (∃ ds, d = .tup ds) ∨ ∃ ds, d = .lst ds) : ∃ a, v = .ref a := by
  rcases e with ⟨ds, rfl⟩ | ⟨ds, rfl⟩
  · rcases h with h | ⟨a, rfl, _⟩
    · cases h; exact ⟨_, rfl⟩
    · exact ⟨_, rfl⟩
  · rcases h with h | ⟨a, rfl, _⟩
    · cases h; exact ⟨_, rfl⟩
    · exact ⟨_, rfl⟩
theorem o_reprU : OpN K (rReprU K) gReprU := fun F H xs ds d fr Q l r e k => by
  unfold gReprU at e
  cases h : gRepr ds with
  | some q =>
    rw [h] at e
    cases e
    exact .inl (o_repr F H xs ds d fr Q l r h k)
  | none =>
    rw [h] at e
    match ds, r, e with
    | [dx], r, e =>
      obtain ⟨v, rfl, rv⟩ := rls1 r
      obtain ⟨x, e1, e2⟩ := Option.map_eq_some_iff.mp (show (shwU dx).map (fun x => (D.str x, false)) = some (d, fr) from e)
      cases e2
      have e3 : ((∃ ds, dx = .tup ds) ∨ ∃ ds, dx = .lst ds) ∧ (toPyU dx).bind (fun p => if fitT p = true then some (ofStr p.shown) else none) = some x := by
        unfold shwU at e1
        split at e1
        · exact ⟨.inl ⟨_, rfl⟩, e1⟩
        · exact ⟨.inr ⟨_, rfl⟩, e1⟩
        · cases e1
      obtain ⟨a, rfl⟩ := rv.ref_of e3.1
      obtain ⟨p, e4, e5⟩ := Option.bind_eq_some_iff.mp e3.2
      split at e5
      · rename_i hf
        cases e5
        refine .inr ⟨a, p, rfl, rv.du l e4, hf, ?_⟩
        have ho : cpsOk (PyData.shown p) = true := by unfold fitT at hf; simp only [Bool.and_eq_true] at hf; exact hf.2
        have := grow_same l (Rel.str (K := K) (F := F) (ofStr (PyData.shown p))) k
        rw [toStr_ofStr ho] at this
        exact this
      · cases e5
    | [], _, e => cases e
    | _ :: _ :: _, _, e => cases e
theorem call_reprU {k : Nat} (hr : Room k X.A) : CallR X (.builtin "repr") (rReprU X.K) := by
  intro pins s σ H xs us Q I r h
  rcases h with h | ⟨a, p, rfl, hd, hf, q⟩
  · exact call_repr hr pins s σ H xs us Q I r h
  · obtain ⟨u, rfl, ru⟩ := vals1 r
    have rd := hd.rd I ru
    obtain rfl : u = Value.ref a := ru
    unfold fitT at hf
    simp only [Bool.and_eq_true, decide_eq_true_eq] at hf
    obtain ⟨⟨⟨h1, h3⟩, h4⟩, h5⟩ := hf
    obtain ⟨T, idr, S⟩ := rd.shows (prog := X.prog) (w := X.w) h1 h4
    have hun := hr.un
    exact call_repr_slot (by omega) (S.typeIs s fun _ _ e => e) S.slotRepr (S.call X.A.in1 X.xe s _ hr.gd (by show X.A.units + 1 + p.depth < cLine; omega) (fun _ _ e => e) fun h' u tk hk => ⟨_, _, rfl, ⟨.str _, H, I.kept hk, ⟨u, rfl⟩, q⟩⟩)
end
end Nu
namespace Nu
open PySem PySem.Spec PyProof.Rows L2
variable [WorldI] {K : PySem.W.Frag}
/-! ## the facts on error classes, each once -/
structure XisOk (K : PySem.W.Frag) (cs : List Str) : Prop where
  each : ∀ c ∈ cs, ExIs K c
theorem fXis_ok {cs : List Str} (h : fXis cs K = true) : XisOk K cs := ⟨fun c hc => fExIs_ok (List.all_eq_true.mp h c hc)⟩
structure KtOk (K : PySem.W.Frag) (cs sup : List Str) (t : Tc) : Prop where
  each : ∀ c ∈ cs, PySem.W.kitOne K (.ref (He.ga K c)) (t.v K) = some (decide (c ∈ sup))
theorem fKt_ok {cs sup : List Str} {t : Tc} (h : fKt cs sup t K = true) : KtOk K cs sup t := ⟨fun c hc => of_decide_eq_true (List.all_eq_true.mp h c hc)⟩
theorem isx_of {cs sup : List Str} {t : Tc} (h : XisOk K cs) (k : KtOk K cs sup t) : IsXOk K cs sup t := ⟨fun c hc => ⟨h.each c hc, k.each c hc⟩⟩
structure NoF (K : PySem.W.Frag) (cs : List Str) (f : Str) : Prop where
  each : ∀ c ∈ cs, PySem.W.findIn K (.ref (He.ga K c)) f = some none
theorem fNoF_ok {cs : List Str} {f : Str} (h : fNoF cs f K = true) : NoF K cs f := ⟨fun c hc => He.eqO_ok (List.all_eq_true.mp h c hc)⟩
theorem fldx_of {cs ds : List Str} {f : Str} (h : XisOk K ds) (k : NoF K cs f) (l : ∀ c ∈ cs, c ∈ ds) : FldX K cs f := ⟨fun c hc => ⟨h.each c (l c hc), k.each c hc⟩⟩
end Nu
namespace Law
open PySem Nu
variable [WorldI]
abbrev ms__law_values : List Bool := [false]
def sem__law_values : Rho → Ss := sSeq (sSet 1 (sLst (sCons (sOpd (sMkE "InvalidSigns" ["value"] (sCons (sOpd (sName 0)) (sNil)))) (sCons (sOpd (sMkE "InvalidRow" ["value"] (sCons (sOpd (sName 0)) (sNil)))) (sCons (sOpd (sMkE "InvalidNumber" ["value"] (sCons (sOpd (sName 0)) (sNil)))) (sCons (sOpd (sMkE "InvalidEdge" ["value"] (sCons (sOpd (sName 0)) (sNil)))) (sNil))))))) (sSeq (sSet 1 (sOp2 gAdd (oName 1) (sOpd (sLst (sCons (sOpd (sMkE "InvalidText" ["value"] (sCons (sOpd (sName 0)) (sNil)))) (sCons (sOpd (sMkE "InvalidLine" ["value"] (sCons (sOpd (sName 0)) (sNil)))) (sCons (sOpd (sMkE "NotAPass" ["value"] (sCons (sOpd (sName 0)) (sNil)))) (sCons (sOpd (sMkE "NotAChain" ["value"] (sCons (sOpd (sName 0)) (sNil)))) (sNil))))))))) (sSeq (sSet 1 (sOp2 gAdd (oName 1) (sOpd (sLst (sCons (sOpd (sMkE "NotBans" ["value"] (sCons (sOpd (sName 0)) (sNil)))) (sCons (sOpd (sMkEk "InvalidSigns" ["value"] 1 [.inl 0] (sCons (sOpd (sName 0)) (sNil)))) (sCons (sOpd (sMkEk "InvalidRow" ["value"] 1 [.inl 0] (sCons (sOpd (sName 0)) (sNil)))) (sNil)))))))) (sSeq (sSet 1 (sOp2 gAdd (oName 1) (sOpd (sLst (sCons (sOpd (sMkEk "InvalidNumber" ["value"] 1 [.inl 0] (sCons (sOpd (sName 0)) (sNil)))) (sCons (sOpd (sMkEk "InvalidEdge" ["value"] 1 [.inl 0] (sCons (sOpd (sName 0)) (sNil)))) (sCons (sOpd (sMkEk "InvalidText" ["value"] 1 [.inl 0] (sCons (sOpd (sName 0)) (sNil)))) (sNil)))))))) (sSeq (sSet 1 (sOp2 gAdd (oName 1) (sOpd (sLst (sCons (sOpd (sMkEk "InvalidLine" ["value"] 1 [.inl 0] (sCons (sOpd (sName 0)) (sNil)))) (sCons (sOpd (sMkEk "NotAPass" ["value"] 1 [.inl 0] (sCons (sOpd (sName 0)) (sNil)))) (sCons (sOpd (sMkEk "NotAChain" ["value"] 1 [.inl 0] (sCons (sOpd (sName 0)) (sNil)))) (sNil)))))))) (sSeq (sSet 1 (sOp2 gAdd (oName 1) (sOpd (sLst (sCons (sOpd (sMkEk "NotBans" ["value"] 1 [.inl 0] (sCons (sOpd (sName 0)) (sNil)))) (sNil)))))) (sRetV 1))))))
def m__law_values : Mir := bodyM ms__law_values 2 sem__law_values
abbrev ms__law_classes : List Bool := [false]
def sem__law_classes : Rho → Ss := sSeq (sSet 1 (sLst (sCons (sOpd (sIsE cs_err sup_InvalidSigns (oName 0))) (sCons (sOpd (sIsE cs_err sup_InvalidRow (oName 0))) (sCons (sOpd (sIsE cs_err sup_InvalidNumber (oName 0))) (sNil)))))) (sSeq (sSet 1 (sOp2 gAdd (oName 1) (sOpd (sLst (sCons (sOpd (sIsE cs_err sup_InvalidRules (oName 0))) (sCons (sOpd (sIsE cs_err sup_InvalidEdge (oName 0))) (sNil))))))) (sSeq (sSet 1 (sOp2 gAdd (oName 1) (sOpd (sLst (sCons (sOpd (sIsE cs_err sup_InvalidPasses (oName 0))) (sCons (sOpd (sIsE cs_err sup_InvalidWords (oName 0))) (sNil))))))) (sSeq (sSet 1 (sOp2 gAdd (oName 1) (sOpd (sLst (sCons (sOpd (sIsE cs_err sup_InvalidText (oName 0))) (sCons (sOpd (sIsE cs_err sup_InvalidGuards (oName 0))) (sNil))))))) (sSeq (sSet 1 (sOp2 gAdd (oName 1) (sOpd (sLst (sCons (sOpd (sIsE cs_err sup_InvalidDeed (oName 0))) (sCons (sOpd (sIsE cs_err sup_InvalidLine (oName 0))) (sCons (sOpd (sIsE cs_err sup_NotAPass (oName 0))) (sNil)))))))) (sSeq (sSet 1 (sOp2 gAdd (oName 1) (sOpd (sLst (sCons (sOpd (sIsE cs_err sup_NotAChain (oName 0))) (sCons (sOpd (sIsE cs_err sup_NotBans (oName 0))) (sCons (sOpd (sIsE cs_err sup_OtherSigns (oName 0))) (sNil)))))))) (sSeq (sSet 1 (sOp2 gAdd (oName 1) (sOpd (sLst (sCons (sOpd (sIsE cs_err sup_Lossy (oName 0))) (sCons (sOpd (sIsE cs_err sup_NoWalk (oName 0))) (sCons (sOpd (sIsE cs_err sup_Ended (oName 0))) (sNil)))))))) (sSeq (sSet 1 (sOp2 gAdd (oName 1) (sOpd (sLst (sCons (sOpd (sIsE cs_err sup_NothingToUndo (oName 0))) (sCons (sOpd (sIsE cs_err sup_Busy (oName 0))) (sCons (sOpd (sIsE cs_err sup_Refused (oName 0))) (sNil)))))))) (sSeq (sSet 1 (sOp2 gAdd (oName 1) (sOpd (sLst (sCons (sOpd (sIsE cs_err sup_TooMany (oName 0))) (sCons (sOpd (sIsE cs_err sup_TooWide (oName 0))) (sNil))))))) (sRetV 1)))))))))
def m__law_classes : Mir := bodyM ms__law_classes 2 sem__law_classes
abbrev ms__law_is : List Bool := [false, false]
def sem__law_is : Rho → Ss := sSeq (sSet 2 (sFnP 1 [] ms__law_classes m__law_classes (vS (sName 0) (vNil)))) (sSeq (sSet 3 (sLst (sCons (sOpd (sIsE cs_err sup_ShapeError (oName 0))) (sCons (sOpd (sIsE cs_err sup_QuestionError (oName 0))) (sCons (sOpd (sIsE cs_err sup_SizeError (oName 0))) (sNil)))))) (sSeq (sSet 4 (sLst (sCons (sOpd (sIsE cs_err sup_ValueError (oName 0))) (sCons (sOpd (sIsE cs_err sup_LookupError (oName 0))) (sCons (sOpd (sIsE cs_err sup_ArithmeticError (oName 0))) (sNil)))))) (sSeq (sSet 5 (sLst (sCons (sOpd (sOp2 gLt (oName 1) (sOpd (sC (.int 14))))) (sCons (sOpd (sChain gLt gLt (sOpd (sC (.int 13))) (oName 1) (sOpd (sC (.int 21))))) (sCons (sOpd (sOp2 gLt (sOpd (sC (.int 20))) (oName 1))) (sNil)))))) (sRet (sAndV (sOp2 gEq (sOpd (sMut gCnt 2 (sCons (sOpd (sC (.bl true))) (sNil)))) (sOpd (sC (.int 1)))) (sAndV (sOp2 gEq (sOpd (sIdxL (oName 2) (sOpd (sC (.bl true))))) (oName 1)) (sAndV (sOp2 gEq (oName 3) (oName 5)) (sOp2 gEq (oName 4) (oName 5)))))))))
def m__law_is : Mir := bodyM ms__law_is 6 sem__law_is
abbrev ms__law_others_right : List Bool := [false, false]
def sem__law_others_right : Rho → Ss := sSeq (sSet 2 (sLst (sCons (sOpd (sMkE "Lossy" ["one", "two"] (sCons (sOpd (sName 0)) (sCons (sOpd (sName 1)) (sNil))))) (sCons (sOpd (sMkEk "Lossy" ["one", "two"] 2 [.inl 1, .inl 0] (sCons (sOpd (sName 1)) (sCons (sOpd (sName 0)) (sNil))))) (sNil))))) (sSeq (sSet 3 (sLst (sCons (sOpd (sMkE "Refused" ["deed", "shown"] (sCons (sOpd (sName 0)) (sCons (sOpd (sName 1)) (sNil))))) (sCons (sOpd (sMkEk "Refused" ["deed", "shown"] 2 [.inl 1, .inl 0] (sCons (sOpd (sName 1)) (sCons (sOpd (sName 0)) (sNil))))) (sNil))))) (sSeq (sIfS (sTest (sOp2 gNe (sOpd (sLc [8] (.nm 8) (sIt (sOpd (sName 2))) (sOr (sTest (sOp2 gNe (sOpd (sFn gReprU (sCons (sOpd (sLst (sCons (sOpd (sFldE cs_fe_one "one" (oName 8))) (sCons (sOpd (sFldE cs_fe_two "two" (oName 8))) (sNil))))) (sNil)))) (sOpd (sFn gReprU (sCons (sOpd (sLst (sCons (sOpd (sName 0)) (sCons (sOpd (sName 1)) (sNil))))) (sNil)))))) (sNot (sTest (sFnP 2 [] ms__law_is m__law_is (vS (sName 8) (vS (sC (.int 15)) (vNil))))))) (sName 8))) (sOpd (sLst (sNil))))) (sRet (sC (.bl false))) (sNx)) (sSeq (sIfS (sTest (sOp2 gNe (sOpd (sLc [8] (.nm 8) (sIt (sOpd (sName 3))) (sOr (sTest (sOp2 gNe (sOpd (sFn gReprU (sCons (sOpd (sLst (sCons (sOpd (sFldE cs_fe_deed "deed" (oName 8))) (sCons (sOpd (sFldE cs_fe_shown "shown" (oName 8))) (sNil))))) (sNil)))) (sOpd (sFn gReprU (sCons (sOpd (sLst (sCons (sOpd (sName 0)) (sCons (sOpd (sName 1)) (sNil))))) (sNil)))))) (sNot (sTest (sFnP 2 [] ms__law_is m__law_is (vS (sName 8) (vS (sC (.int 20)) (vNil))))))) (sName 8))) (sOpd (sLst (sNil))))) (sRet (sC (.bl false))) (sNx)) (sSeq (sSet 4 (sLst (sCons (sOpd (sMkE "OtherSigns" ["given"] (sCons (sOpd (sName 0)) (sNil)))) (sCons (sOpd (sMkEk "OtherSigns" ["given"] 1 [.inl 0] (sCons (sOpd (sName 0)) (sNil)))) (sNil))))) (sSeq (sIfS (sTest (sOp2 gNe (sOpd (sLc [8] (.nm 8) (sIt (sOpd (sName 4))) (sOr (sTest (sOp2 gNe (sOpd (sFn gReprU (sCons (sOpd (sFldE cs_fe_given "given" (oName 8))) (sNil)))) (sOpd (sFn gReprU (sCons (oName 0) (sNil)))))) (sNot (sTest (sFnP 2 [] ms__law_is m__law_is (vS (sName 8) (vS (sC (.int 14)) (vNil))))))) (sName 8))) (sOpd (sLst (sNil))))) (sRet (sC (.bl false))) (sNx)) (sSeq (sParV 5 6 (vE (sLst (sCons (sOpd (sMkE "TooMany" ["limit"] (sCons (sOpd (sName 0)) (sNil)))) (sCons (sOpd (sMkEk "TooMany" ["limit"] 1 [.inl 0] (sCons (sOpd (sName 0)) (sNil)))) (sNil)))) (vE (sLst (sCons (sOpd (sMkE "TooWide" ["limit"] (sCons (sOpd (sName 0)) (sNil)))) (sCons (sOpd (sMkEk "TooWide" ["limit"] 1 [.inl 0] (sCons (sOpd (sName 0)) (sNil)))) (sNil)))) (vNil)))) (sSeq (sIfS (sTest (sOp2 gNe (sOpd (sLc [8] (.nm 8) (sIt (sOpd (sOp2 gAdd (oName 5) (oName 6)))) (sTest (sOp2 gNe (sOpd (sFn gReprU (sCons (sOpd (sFldE cs_fe_limit "limit" (oName 8))) (sNil)))) (sOpd (sFn gReprU (sCons (oName 0) (sNil)))))) (sName 8))) (sOpd (sLst (sNil))))) (sRet (sC (.bl false))) (sNx)) (sSeq (sIfS (sOr (sTest (sOp2 gNe (sOpd (sLc [8] (.nm 8) (sIt (sOpd (sName 5))) (sNot (sTest (sFnP 2 [] ms__law_is m__law_is (vS (sName 8) (vS (sC (.int 21)) (vNil)))))) (sName 8))) (sOpd (sLst (sNil))))) (sTest (sOp2 gNe (sOpd (sLc [8] (.nm 8) (sIt (sOpd (sName 6))) (sNot (sTest (sFnP 2 [] ms__law_is m__law_is (vS (sName 8) (vS (sC (.int 22)) (vNil)))))) (sName 8))) (sOpd (sLst (sNil)))))) (sRet (sC (.bl false))) (sNx)) (sSeq (sSet 7 (sLst (sCons (sOpd (sFnP 2 [] ms__law_is m__law_is (vS (sMkE0 "NoWalk") (vS (sC (.int 16)) (vNil))))) (sCons (sOpd (sFnP 2 [] ms__law_is m__law_is (vS (sMkE0 "Ended") (vS (sC (.int 17)) (vNil))))) (sCons (sOpd (sFnP 2 [] ms__law_is m__law_is (vS (sMkE0 "NothingToUndo") (vS (sC (.int 18)) (vNil))))) (sCons (sOpd (sFnP 2 [] ms__law_is m__law_is (vS (sMkE0 "Busy") (vS (sC (.int 19)) (vNil))))) (sNil))))))) (sRet (sOp2 gEq (oName 7) (sOpd (sOp2 gMulT (sOpd (sLst (sCons (sOpd (sC (.bl true))) (sNil)))) (sOpd (sC (.int 4))))))))))))))))
def m__law_others_right : Mir := bodyM ms__law_others_right 9 sem__law_others_right
abbrev ms__law_draw : List Bool := [true, false]
def sem__law_draw : Rho → Ss := sSeq (sSetIx 0 (sC (.int 2)) (sOp2 gAdd (sOpd (sOp2 gIx (oName 0) (sOpd (sC (.int 2))))) (sOpd (sC (.int 1))))) (sSeq (sIfS (sTest (sOp2 gGt (sOpd (sOp2 gIx (oName 0) (sOpd (sC (.int 0))))) (sOpd (sC (.int 0))))) (sSeq (sSet 2 (sOp2 gMod (sOpd (sFn gInt (sCons (sOpd (sOp2 gIx (oName 0) (sOpd (sC (.int 0))))) (sNil)))) (oName 1))) (sSeq (sSetIx 0 (sC (.int 0)) (sOp2 gDiv (sOpd (sOp2 gIx (oName 0) (sOpd (sC (.int 0))))) (oName 1))) (sRetV 2))) (sNx)) (sSeq (sSet 3 (sOp2 gAdd (sOpd (sFn gInt (sCons (sOpd (sOp2 gIx (oName 0) (sOpd (sC (.int 1))))) (sNil)))) (sOpd (sOp2 gMulT (sOpd (sC (.int 104723))) (sOpd (sOp2 gIx (oName 0) (sOpd (sC (.int 2))))))))) (sSeq (sSetIx 0 (sC (.int 1)) (sOp2 gMod (sOpd (sFn gInt (sCons (sOpd (sOp2 gAdd (sOpd (sOp2 gAdd (sOpd (sOp2 gMulT (oName 3) (sOpd (sOp2 gAdd (sOpd (sOp2 gMod (sOpd (sFn gInt (sCons (oName 3) (sNil)))) (sOpd (sC (.int 60013))))) (sOpd (sC (.int 40009))))))) (sOpd (sOp2 gMulT (sOpd (sC (.int 5))) (sOpd (sOp2 gIx (oName 0) (sOpd (sC (.int 2))))))))) (sOpd (sC (.int 11))))) (sNil)))) (sOpd (sC (.int 2147483629))))) (sRet (sOp2 gMod (sOpd (sOp2 gDiv (sOpd (sFn gInt (sCons (sOpd (sOp2 gIx (oName 0) (sOpd (sC (.int 1))))) (sNil)))) (sOpd (sC (.int 509))))) (oName 1))))))
def m__law_draw : Mir := bodyM ms__law_draw 4 sem__law_draw
abbrev ms__law_one : List Bool := [true, false]
def sem__law_one : Rho → Ss := sRet (sOp2 gIx (oName 1) (sOpd (sFnP 2 [] ms__law_draw m__law_draw (vN 0 (vS (sFn gLen (sCons (oName 1) (sNil))) (vNil))))))
def m__law_one : Mir := bodyM ms__law_one 2 sem__law_one
abbrev ms__law_indexes : List Bool := [false]
def sem__law_indexes : Rho → Ss := sSeq (sSet 1 (sLst (sCons (sOpd (sMkE "InvalidRules" ["index"] (sCons (sOpd (sName 0)) (sNil)))) (sCons (sOpd (sMkE "InvalidPasses" ["index"] (sCons (sOpd (sName 0)) (sNil)))) (sCons (sOpd (sMkE "InvalidWords" ["index"] (sCons (sOpd (sName 0)) (sNil)))) (sCons (sOpd (sMkE "InvalidGuards" ["index"] (sCons (sOpd (sName 0)) (sNil)))) (sNil))))))) (sSeq (sSet 1 (sOp2 gAdd (oName 1) (sOpd (sLst (sCons (sOpd (sMkE "InvalidDeed" ["index"] (sCons (sOpd (sName 0)) (sNil)))) (sCons (sOpd (sMkEk "InvalidRules" ["index"] 1 [.inl 0] (sCons (sOpd (sName 0)) (sNil)))) (sCons (sOpd (sMkEk "InvalidPasses" ["index"] 1 [.inl 0] (sCons (sOpd (sName 0)) (sNil)))) (sNil)))))))) (sSeq (sSet 1 (sOp2 gAdd (oName 1) (sOpd (sLst (sCons (sOpd (sMkEk "InvalidWords" ["index"] 1 [.inl 0] (sCons (sOpd (sName 0)) (sNil)))) (sCons (sOpd (sMkEk "InvalidGuards" ["index"] 1 [.inl 0] (sCons (sOpd (sName 0)) (sNil)))) (sCons (sOpd (sMkEk "InvalidDeed" ["index"] 1 [.inl 0] (sCons (sOpd (sName 0)) (sNil)))) (sNil)))))))) (sRetV 1)))
def m__law_indexes : Mir := bodyM ms__law_indexes 2 sem__law_indexes
abbrev ms__law_right : List Bool := [true]
def sem__law_right : Rho → Ss := sSeq (sSet 1 (sLst (sCons (sOpd (sOp2 gAdd (sOpd (sOp2 gPow (sOpd (sC (.int 10))) (sOpd (sC (.int 39))))) (sOpd (sC (.int 7))))) (sCons (sOpd (sC .non)) (sCons (sOpd (sC (.str (lit "x")))) (sCons (sOpd (sTup (sCons (sOpd (sC (.int 1))) (sCons (sOpd (sC (.str (lit "a")))) (sNil))))) (sCons (sOpd (sLst (sCons (sOpd (sC (.int 2))) (sNil)))) (sCons (sOpd (sC .emp)) (sCons (sOpd (sC (.bl true))) (sCons (sOpd (sNeg (sC (.int 5)))) (sCons (sOpd (sTup (sCons (sOpd (sC (.str (lit "ab")))) (sCons (sOpd (sTup (sNil))) (sNil))))) (sCons (sOpd (sC (.str (lit "")))) (sNil))))))))))))) (sSeq (sParV 2 3 (vE (sFnP 2 [] ms__law_one m__law_one (vN 0 (vS (sName 1) (vNil)))) (vE (sFnP 2 [] ms__law_one m__law_one (vN 0 (vS (sName 1) (vNil)))) (vNil)))) (sSeq (sSet 4 (sFnP 1 [] ms__law_values m__law_values (vS (sName 2) (vNil)))) (sSeq (sSet 5 (sLst (sCons (sOpd (sC (.int 0))) (sCons (sOpd (sC (.int 1))) (sCons (sOpd (sC (.int 2))) (sCons (sOpd (sC (.int 4))) (sCons (sOpd (sC (.int 7))) (sCons (sOpd (sC (.int 10))) (sCons (sOpd (sC (.int 11))) (sCons (sOpd (sC (.int 12))) (sCons (sOpd (sC (.int 13))) (sNil)))))))))))) (sSeq (sPre [6] (sFor (.nm 6) (sItR rng1 (sCons (sOpd (sC (.int 18))) (sNil))) (sWp [6] (sIfS (sOr (sTest (sOp2 gNe (sOpd (sFn gReprU (sCons (sOpd (sFldE cs_fe_value "value" (sOpd (sOp2 gIx (oName 4) (oName 6))))) (sNil)))) (sOpd (sFn gReprU (sCons (oName 2) (sNil)))))) (sNot (sTest (sFnP 2 [] ms__law_is m__law_is (vS (sOp2 gIx (oName 4) (oName 6)) (vS (sOp2 gIx (sOpd (sOp2 gAdd (oName 5) (oName 5))) (oName 6)) (vNil))))))) (sRet (sC (.bl false))) (sNx))))) (sSeq (sParV 4 5 (vE (sFnP 1 [] ms__law_indexes m__law_indexes (vS (sName 2) (vNil))) (vE (sLst (sCons (sOpd (sC (.int 3))) (sCons (sOpd (sC (.int 5))) (sCons (sOpd (sC (.int 6))) (sCons (sOpd (sC (.int 8))) (sCons (sOpd (sC (.int 9))) (sNil))))))) (vNil)))) (sSeq (sPre [6] (sFor (.nm 6) (sItR rng1 (sCons (sOpd (sC (.int 10))) (sNil))) (sWp [6] (sIfS (sOr (sTest (sOp2 gNe (sOpd (sFn gReprU (sCons (sOpd (sFldE cs_fe_index "index" (sOpd (sOp2 gIx (oName 4) (oName 6))))) (sNil)))) (sOpd (sFn gReprU (sCons (oName 2) (sNil)))))) (sNot (sTest (sFnP 2 [] ms__law_is m__law_is (vS (sOp2 gIx (oName 4) (oName 6)) (vS (sOp2 gIx (sOpd (sOp2 gAdd (oName 5) (oName 5))) (oName 6)) (vNil))))))) (sRet (sC (.bl false))) (sNx))))) (sRet (sFnP 2 [] ms__law_others_right m__law_others_right (vS (sName 2) (vS (sName 3) (vNil)))))))))))
def m__law_right : Mir := bodyM ms__law_right 7 sem__law_right
abbrev ms__law_bag : List Bool := [false, false]
def sem__law_bag : Rho → Ss := sSeq (sParV 2 3 (vE (sIf (sTest (sOp2 gLt (oName 1) (sOpd (sFn gLen (sCons (oName 0) (sNil)))))) (sFn gInt (sCons (sOpd (sOp2 gIx (oName 0) (oName 1))) (sNil))) (sC (.int 0))) (vE (sOp2 gMulT (sOpd (sC (.int 90001))) (sOpd (sOp2 gAdd (oName 1) (sOpd (sC (.int 3)))))) (vNil)))) (sSeq (sPre [4] (sFor (.nm 4) (sIt (sOpd (sSl gSl (oName 0) (sNoP) (sP (sC (.int 7)))))) (sWp [4] (sSet 3 (sOp2 gMod (sOpd (sFn gInt (sCons (sOpd (sOp2 gAdd (sOpd (sOp2 gAdd (sOpd (sOp2 gMulT (oName 3) (sOpd (sC (.int 31337))))) (sOpd (sOp2 gMod (sOpd (sFn gInt (sCons (oName 4) (sNil)))) (sOpd (sC (.int 1000003))))))) (sOpd (sOp2 gMulT (sOpd (sC (.int 7))) (oName 1))))) (sNil)))) (sOpd (sC (.int 2147483629)))))))) (sSeq (sSet 5 (sIf (sOr (sTest (sOp2 gLt (oName 2) (sOpd (sC (.int 0))))) (sTest (sOp2 gGe (oName 2) (sOpd (sOp2 gPow (sOpd (sC (.int 10))) (sOpd (sC (.int 15)))))))) (sFn gAbs (sCons (oName 2) (sNil))) (sC (.int 0)))) (sRet (sLst (sCons (sOpd (sName 5)) (sCons (sOpd (sOp2 gMod (sOpd (sFn gInt (sCons (sOpd (sOp2 gAdd (oName 3) (sOpd (sOp2 gMulT (sOpd (sC (.int 48271))) (sOpd (sOp2 gMod (sOpd (sFn gInt (sCons (oName 2) (sNil)))) (sOpd (sC (.int 999983))))))))) (sNil)))) (sOpd (sC (.int 2147483629))))) (sCons (sOpd (sC (.int 0))) (sNil))))))))
def m__law_bag : Mir := bodyM ms__law_bag 6 sem__law_bag
abbrev ms_law : List Bool := [false]
def sem_law : Rho → Ss := sSeq (sSet 1 (sLst (sCons (sOpd (sC (.int 4))) (sCons (sOpd (sC (.int 2))) (sCons (sOpd (sC (.int 12))) (sCons (sOpd (sC (.int 12))) (sCons (sOpd (sC (.int 8))) (sNil)))))))) (sSeq (sSet 1 (sOp2 gAdd (oName 1) (sOpd (sLst (sCons (sOpd (sC (.int 256))) (sCons (sOpd (sC (.int 1000))) (sCons (sOpd (sC (.int 2000))) (sCons (sOpd (sC (.int 100))) (sNil))))))))) (sSeq (sIfS (sTest (sOp2 gNe (sOpd (sFn gReprU (sCons (oName 1) (sNil)))) (sOpd (sC (.str (lit "[4, 2, 12, 12, 8, 256, 1000, 2000, 100]")))))) (sRet (sC (.bl false))) (sNx)) (sRet (sFn gAll (sCons (sOpd (sLc [2] (.nm 2) (sItR rng1 (sCons (sOpd (sFn gMax (sCons (sOpd (sC (.int 2))) (sCons (sOpd (sFn gMin (sCons (sOpd (sFn gLen (sCons (oName 0) (sNil)))) (sCons (sOpd (sC (.int 6))) (sNil))))) (sNil))))) (sNil))) (sYes) (sFnP 1 [] ms__law_right m__law_right (vE (sFnP 2 [] ms__law_bag m__law_bag (vS (sName 0) (vS (sName 2) (vNil)))) (vNil))))) (sNil))))))
def m_law : Mir := bodyM ms_law 3 sem_law
end Law
namespace Law
open PySem PySem.Spec PyProof.Rows L2 Nu
variable [WorldI]
structure Ax0 (K : PySem.W.Frag) (mg : Str → Option Value) : Prop where
  f_ArithmeticError : mg "ArithmeticError" = none
  f_LookupError : mg "LookupError" = none
  f_ValueError : mg "ValueError" = none
  f_abs : mg "abs" = none
  f_all : mg "all" = none
  f_int : mg "int" = none
  f_isinstance : mg "isinstance" = none
  f_len : mg "len" = none
  f_max : mg "max" = none
  f_min : mg "min" = none
  f_range : mg "range" = none
  f_repr : mg "repr" = none
  c_MOST_DEEDS : ∃ t, mg "MOST_DEEDS" = some (.int 100 t)
  c_MOST_LENGTH : ∃ t, mg "MOST_LENGTH" = some (.int 2000 t)
  c_MOST_PASSES : ∃ t, mg "MOST_PASSES" = some (.int 12 t)
  c_MOST_REACH : ∃ t, mg "MOST_REACH" = some (.int 2 t)
  c_MOST_RULES : ∃ t, mg "MOST_RULES" = some (.int 12 t)
  c_MOST_SETS : ∃ t, mg "MOST_SETS" = some (.int 1000 t)
  c_MOST_SIGNS : ∃ t, mg "MOST_SIGNS" = some (.int 4 t)
  c_MOST_WIDE : ∃ t, mg "MOST_WIDE" = some (.int 256 t)
  c_MOST_WORDS : ∃ t, mg "MOST_WORDS" = some (.int 8 t)
  g__law_values : mg "_law_values" = some (.ref (He.ga K "_law_values"))
  g__law_classes : mg "_law_classes" = some (.ref (He.ga K "_law_classes"))
  g__law_is : mg "_law_is" = some (.ref (He.ga K "_law_is"))
  g__law_others_right : mg "_law_others_right" = some (.ref (He.ga K "_law_others_right"))
  g__law_draw : mg "_law_draw" = some (.ref (He.ga K "_law_draw"))
  g__law_one : mg "_law_one" = some (.ref (He.ga K "_law_one"))
  g__law_indexes : mg "_law_indexes" = some (.ref (He.ga K "_law_indexes"))
  g__law_right : mg "_law_right" = some (.ref (He.ga K "_law_right"))
  g__law_bag : mg "_law_bag" = some (.ref (He.ga K "_law_bag"))
  g_law : mg "law" = some (.ref (He.ga K "law"))
  g_InvalidSigns : mg "InvalidSigns" = some (.ref (He.ga K "InvalidSigns"))
  x_InvalidSigns : ExM K "InvalidSigns"
  xn_InvalidSigns_value : PySem.W.findIn K (.ref (He.ga K "InvalidSigns")) "value" = some none
  g_InvalidRow : mg "InvalidRow" = some (.ref (He.ga K "InvalidRow"))
  x_InvalidRow : ExM K "InvalidRow"
  xn_InvalidRow_value : PySem.W.findIn K (.ref (He.ga K "InvalidRow")) "value" = some none
  g_InvalidNumber : mg "InvalidNumber" = some (.ref (He.ga K "InvalidNumber"))
  x_InvalidNumber : ExM K "InvalidNumber"
  xn_InvalidNumber_value : PySem.W.findIn K (.ref (He.ga K "InvalidNumber")) "value" = some none
  g_InvalidRules : mg "InvalidRules" = some (.ref (He.ga K "InvalidRules"))
  x_InvalidRules : ExM K "InvalidRules"
  xn_InvalidRules_index : PySem.W.findIn K (.ref (He.ga K "InvalidRules")) "index" = some none
  g_InvalidEdge : mg "InvalidEdge" = some (.ref (He.ga K "InvalidEdge"))
  x_InvalidEdge : ExM K "InvalidEdge"
  xn_InvalidEdge_value : PySem.W.findIn K (.ref (He.ga K "InvalidEdge")) "value" = some none
  g_InvalidPasses : mg "InvalidPasses" = some (.ref (He.ga K "InvalidPasses"))
  x_InvalidPasses : ExM K "InvalidPasses"
  xn_InvalidPasses_index : PySem.W.findIn K (.ref (He.ga K "InvalidPasses")) "index" = some none
  g_InvalidWords : mg "InvalidWords" = some (.ref (He.ga K "InvalidWords"))
  x_InvalidWords : ExM K "InvalidWords"
  xn_InvalidWords_index : PySem.W.findIn K (.ref (He.ga K "InvalidWords")) "index" = some none
  g_InvalidText : mg "InvalidText" = some (.ref (He.ga K "InvalidText"))
  x_InvalidText : ExM K "InvalidText"
  xn_InvalidText_value : PySem.W.findIn K (.ref (He.ga K "InvalidText")) "value" = some none
  g_InvalidGuards : mg "InvalidGuards" = some (.ref (He.ga K "InvalidGuards"))
  x_InvalidGuards : ExM K "InvalidGuards"
  xn_InvalidGuards_index : PySem.W.findIn K (.ref (He.ga K "InvalidGuards")) "index" = some none
  g_InvalidDeed : mg "InvalidDeed" = some (.ref (He.ga K "InvalidDeed"))
  x_InvalidDeed : ExM K "InvalidDeed"
  xn_InvalidDeed_index : PySem.W.findIn K (.ref (He.ga K "InvalidDeed")) "index" = some none
  g_InvalidLine : mg "InvalidLine" = some (.ref (He.ga K "InvalidLine"))
  x_InvalidLine : ExM K "InvalidLine"
  xn_InvalidLine_value : PySem.W.findIn K (.ref (He.ga K "InvalidLine")) "value" = some none
  g_NotAPass : mg "NotAPass" = some (.ref (He.ga K "NotAPass"))
  x_NotAPass : ExM K "NotAPass"
  xn_NotAPass_value : PySem.W.findIn K (.ref (He.ga K "NotAPass")) "value" = some none
  g_NotAChain : mg "NotAChain" = some (.ref (He.ga K "NotAChain"))
  x_NotAChain : ExM K "NotAChain"
  xn_NotAChain_value : PySem.W.findIn K (.ref (He.ga K "NotAChain")) "value" = some none
  g_NotBans : mg "NotBans" = some (.ref (He.ga K "NotBans"))
  x_NotBans : ExM K "NotBans"
  xn_NotBans_value : PySem.W.findIn K (.ref (He.ga K "NotBans")) "value" = some none
  g_OtherSigns : mg "OtherSigns" = some (.ref (He.ga K "OtherSigns"))
  x_OtherSigns : ExM K "OtherSigns"
  xn_OtherSigns_given : PySem.W.findIn K (.ref (He.ga K "OtherSigns")) "given" = some none
  g_Lossy : mg "Lossy" = some (.ref (He.ga K "Lossy"))
  x_Lossy : ExM K "Lossy"
  xn_Lossy_one : PySem.W.findIn K (.ref (He.ga K "Lossy")) "one" = some none
  xn_Lossy_two : PySem.W.findIn K (.ref (He.ga K "Lossy")) "two" = some none
  g_Refused : mg "Refused" = some (.ref (He.ga K "Refused"))
  x_Refused : ExM K "Refused"
  xn_Refused_deed : PySem.W.findIn K (.ref (He.ga K "Refused")) "deed" = some none
  xn_Refused_shown : PySem.W.findIn K (.ref (He.ga K "Refused")) "shown" = some none
  g_TooMany : mg "TooMany" = some (.ref (He.ga K "TooMany"))
  x_TooMany : ExM K "TooMany"
  xn_TooMany_limit : PySem.W.findIn K (.ref (He.ga K "TooMany")) "limit" = some none
  g_TooWide : mg "TooWide" = some (.ref (He.ga K "TooWide"))
  x_TooWide : ExM K "TooWide"
  xn_TooWide_limit : PySem.W.findIn K (.ref (He.ga K "TooWide")) "limit" = some none
  g_ShapeError : mg "ShapeError" = some (.ref (He.ga K "ShapeError"))
  g_QuestionError : mg "QuestionError" = some (.ref (He.ga K "QuestionError"))
  g_SizeError : mg "SizeError" = some (.ref (He.ga K "SizeError"))
  g_NoWalk : mg "NoWalk" = some (.ref (He.ga K "NoWalk"))
  g_Ended : mg "Ended" = some (.ref (He.ga K "Ended"))
  g_NothingToUndo : mg "NothingToUndo" = some (.ref (He.ga K "NothingToUndo"))
  g_Busy : mg "Busy" = some (.ref (He.ga K "Busy"))
  e0_NoWalk : E0M K "NoWalk"
  e0_Ended : E0M K "Ended"
  e0_NothingToUndo : E0M K "NothingToUndo"
  e0_Busy : E0M K "Busy"
  xis : XisOk K cs_err
  kt_ArithmeticError : KtOk K cs_err sup_ArithmeticError (.blt "ArithmeticError")
  kt_Busy : KtOk K cs_err sup_Busy (.own "Busy")
  kt_Ended : KtOk K cs_err sup_Ended (.own "Ended")
  kt_InvalidDeed : KtOk K cs_err sup_InvalidDeed (.own "InvalidDeed")
  kt_InvalidEdge : KtOk K cs_err sup_InvalidEdge (.own "InvalidEdge")
  kt_InvalidGuards : KtOk K cs_err sup_InvalidGuards (.own "InvalidGuards")
  kt_InvalidLine : KtOk K cs_err sup_InvalidLine (.own "InvalidLine")
  kt_InvalidNumber : KtOk K cs_err sup_InvalidNumber (.own "InvalidNumber")
  kt_InvalidPasses : KtOk K cs_err sup_InvalidPasses (.own "InvalidPasses")
  kt_InvalidRow : KtOk K cs_err sup_InvalidRow (.own "InvalidRow")
  kt_InvalidRules : KtOk K cs_err sup_InvalidRules (.own "InvalidRules")
  kt_InvalidSigns : KtOk K cs_err sup_InvalidSigns (.own "InvalidSigns")
  kt_InvalidText : KtOk K cs_err sup_InvalidText (.own "InvalidText")
  kt_InvalidWords : KtOk K cs_err sup_InvalidWords (.own "InvalidWords")
  kt_LookupError : KtOk K cs_err sup_LookupError (.blt "LookupError")
  kt_Lossy : KtOk K cs_err sup_Lossy (.own "Lossy")
  kt_NoWalk : KtOk K cs_err sup_NoWalk (.own "NoWalk")
  kt_NotAChain : KtOk K cs_err sup_NotAChain (.own "NotAChain")
  kt_NotAPass : KtOk K cs_err sup_NotAPass (.own "NotAPass")
  kt_NotBans : KtOk K cs_err sup_NotBans (.own "NotBans")
  kt_NothingToUndo : KtOk K cs_err sup_NothingToUndo (.own "NothingToUndo")
  kt_OtherSigns : KtOk K cs_err sup_OtherSigns (.own "OtherSigns")
  kt_QuestionError : KtOk K cs_err sup_QuestionError (.own "QuestionError")
  kt_Refused : KtOk K cs_err sup_Refused (.own "Refused")
  kt_ShapeError : KtOk K cs_err sup_ShapeError (.own "ShapeError")
  kt_SizeError : KtOk K cs_err sup_SizeError (.own "SizeError")
  kt_TooMany : KtOk K cs_err sup_TooMany (.own "TooMany")
  kt_TooWide : KtOk K cs_err sup_TooWide (.own "TooWide")
  kt_ValueError : KtOk K cs_err sup_ValueError (.blt "ValueError")
  fe_deed : NoF K cs_fe_deed "deed"
  fe_given : NoF K cs_fe_given "given"
  fe_index : NoF K cs_fe_index "index"
  fe_limit : NoF K cs_fe_limit "limit"
  fe_one : NoF K cs_fe_one "one"
  fe_shown : NoF K cs_fe_shown "shown"
  fe_two : NoF K cs_fe_two "two"
  fe_value : NoF K cs_fe_value "value"
  F__law_values : ∃ fd, FunD K "_law_values" "_law_values" (defArgs st__law_values) (defBody st__law_values) (defScope st__law_values) [] [] (He.ga K "_law_values") fd
  F__law_classes : ∃ fd, FunD K "_law_classes" "_law_classes" (defArgs st__law_classes) (defBody st__law_classes) (defScope st__law_classes) [] [] (He.ga K "_law_classes") fd
  F__law_is : ∃ fd, FunD K "_law_is" "_law_is" (defArgs st__law_is) (defBody st__law_is) (defScope st__law_is) [] [] (He.ga K "_law_is") fd
  F__law_others_right : ∃ fd, FunD K "_law_others_right" "_law_others_right" (defArgs st__law_others_right) (defBody st__law_others_right) (defScope st__law_others_right) [] [] (He.ga K "_law_others_right") fd
  F__law_draw : ∃ fd, FunD K "_law_draw" "_law_draw" (defArgs st__law_draw) (defBody st__law_draw) (defScope st__law_draw) [] [] (He.ga K "_law_draw") fd
  F__law_one : ∃ fd, FunD K "_law_one" "_law_one" (defArgs st__law_one) (defBody st__law_one) (defScope st__law_one) [] [] (He.ga K "_law_one") fd
  F__law_indexes : ∃ fd, FunD K "_law_indexes" "_law_indexes" (defArgs st__law_indexes) (defBody st__law_indexes) (defScope st__law_indexes) [] [] (He.ga K "_law_indexes") fd
  F__law_right : ∃ fd, FunD K "_law_right" "_law_right" (defArgs st__law_right) (defBody st__law_right) (defScope st__law_right) [] [] (He.ga K "_law_right") fd
  F__law_bag : ∃ fd, FunD K "_law_bag" "_law_bag" (defArgs st__law_bag) (defBody st__law_bag) (defScope st__law_bag) [] [] (He.ga K "_law_bag") fd
  F_law : ∃ fd, FunD K "law" "law" (defArgs st_law) (defBody st_law) (defScope st_law) [] [] (He.ga K "law") fd
  F_InvalidSigns___init__ : ∃ fd, FunD K "__init__" "InvalidSigns.__init__" (defArgs st_InvalidSigns___init__) (defBody st_InvalidSigns___init__) (defScope st_InvalidSigns___init__) [] [] (He.ma K (He.ga K "InvalidSigns") "__init__") fd
  F_InvalidRow___init__ : ∃ fd, FunD K "__init__" "InvalidRow.__init__" (defArgs st_InvalidRow___init__) (defBody st_InvalidRow___init__) (defScope st_InvalidRow___init__) [] [] (He.ma K (He.ga K "InvalidRow") "__init__") fd
  F_InvalidNumber___init__ : ∃ fd, FunD K "__init__" "InvalidNumber.__init__" (defArgs st_InvalidNumber___init__) (defBody st_InvalidNumber___init__) (defScope st_InvalidNumber___init__) [] [] (He.ma K (He.ga K "InvalidNumber") "__init__") fd
  F_InvalidRules___init__ : ∃ fd, FunD K "__init__" "InvalidRules.__init__" (defArgs st_InvalidRules___init__) (defBody st_InvalidRules___init__) (defScope st_InvalidRules___init__) [] [] (He.ma K (He.ga K "InvalidRules") "__init__") fd
  F_InvalidEdge___init__ : ∃ fd, FunD K "__init__" "InvalidEdge.__init__" (defArgs st_InvalidEdge___init__) (defBody st_InvalidEdge___init__) (defScope st_InvalidEdge___init__) [] [] (He.ma K (He.ga K "InvalidEdge") "__init__") fd
  F_InvalidPasses___init__ : ∃ fd, FunD K "__init__" "InvalidPasses.__init__" (defArgs st_InvalidPasses___init__) (defBody st_InvalidPasses___init__) (defScope st_InvalidPasses___init__) [] [] (He.ma K (He.ga K "InvalidPasses") "__init__") fd
  F_InvalidWords___init__ : ∃ fd, FunD K "__init__" "InvalidWords.__init__" (defArgs st_InvalidWords___init__) (defBody st_InvalidWords___init__) (defScope st_InvalidWords___init__) [] [] (He.ma K (He.ga K "InvalidWords") "__init__") fd
  F_InvalidText___init__ : ∃ fd, FunD K "__init__" "InvalidText.__init__" (defArgs st_InvalidText___init__) (defBody st_InvalidText___init__) (defScope st_InvalidText___init__) [] [] (He.ma K (He.ga K "InvalidText") "__init__") fd
  F_InvalidGuards___init__ : ∃ fd, FunD K "__init__" "InvalidGuards.__init__" (defArgs st_InvalidGuards___init__) (defBody st_InvalidGuards___init__) (defScope st_InvalidGuards___init__) [] [] (He.ma K (He.ga K "InvalidGuards") "__init__") fd
  F_InvalidDeed___init__ : ∃ fd, FunD K "__init__" "InvalidDeed.__init__" (defArgs st_InvalidDeed___init__) (defBody st_InvalidDeed___init__) (defScope st_InvalidDeed___init__) [] [] (He.ma K (He.ga K "InvalidDeed") "__init__") fd
  F_InvalidLine___init__ : ∃ fd, FunD K "__init__" "InvalidLine.__init__" (defArgs st_InvalidLine___init__) (defBody st_InvalidLine___init__) (defScope st_InvalidLine___init__) [] [] (He.ma K (He.ga K "InvalidLine") "__init__") fd
  F_NotAPass___init__ : ∃ fd, FunD K "__init__" "NotAPass.__init__" (defArgs st_NotAPass___init__) (defBody st_NotAPass___init__) (defScope st_NotAPass___init__) [] [] (He.ma K (He.ga K "NotAPass") "__init__") fd
  F_NotAChain___init__ : ∃ fd, FunD K "__init__" "NotAChain.__init__" (defArgs st_NotAChain___init__) (defBody st_NotAChain___init__) (defScope st_NotAChain___init__) [] [] (He.ma K (He.ga K "NotAChain") "__init__") fd
  F_NotBans___init__ : ∃ fd, FunD K "__init__" "NotBans.__init__" (defArgs st_NotBans___init__) (defBody st_NotBans___init__) (defScope st_NotBans___init__) [] [] (He.ma K (He.ga K "NotBans") "__init__") fd
  F_OtherSigns___init__ : ∃ fd, FunD K "__init__" "OtherSigns.__init__" (defArgs st_OtherSigns___init__) (defBody st_OtherSigns___init__) (defScope st_OtherSigns___init__) [] [] (He.ma K (He.ga K "OtherSigns") "__init__") fd
  F_Lossy___init__ : ∃ fd, FunD K "__init__" "Lossy.__init__" (defArgs st_Lossy___init__) (defBody st_Lossy___init__) (defScope st_Lossy___init__) [] [] (He.ma K (He.ga K "Lossy") "__init__") fd
  F_Refused___init__ : ∃ fd, FunD K "__init__" "Refused.__init__" (defArgs st_Refused___init__) (defBody st_Refused___init__) (defScope st_Refused___init__) [] [] (He.ma K (He.ga K "Refused") "__init__") fd
  F_TooMany___init__ : ∃ fd, FunD K "__init__" "TooMany.__init__" (defArgs st_TooMany___init__) (defBody st_TooMany___init__) (defScope st_TooMany___init__) [] [] (He.ma K (He.ga K "TooMany") "__init__") fd
  F_TooWide___init__ : ∃ fd, FunD K "__init__" "TooWide.__init__" (defArgs st_TooWide___init__) (defBody st_TooWide___init__) (defScope st_TooWide___init__) [] [] (He.ma K (He.ga K "TooWide") "__init__") fd
structure Ax (K : PySem.W.Frag) (mg : Str → Option Value) (base : Heap) : Prop extends Ax0 K mg where
  tb : ∀ p ∈ lamDefs K, LamX.TabB base mg (He.cT K p).1 (He.cT K p).2
variable {P : Program} {K : PySem.W.Frag} {mg : Str → Option Value} {base : Heap}
theorem Ax0.k__law_values (a : Ax0 K mg) : PySem.W.keepIn K (.ref (He.ga K "_law_values")) = true := let ⟨_, F⟩ := a.F__law_values; F.kp
theorem Ax0.k__law_classes (a : Ax0 K mg) : PySem.W.keepIn K (.ref (He.ga K "_law_classes")) = true := let ⟨_, F⟩ := a.F__law_classes; F.kp
theorem Ax0.k__law_is (a : Ax0 K mg) : PySem.W.keepIn K (.ref (He.ga K "_law_is")) = true := let ⟨_, F⟩ := a.F__law_is; F.kp
theorem Ax0.k__law_others_right (a : Ax0 K mg) : PySem.W.keepIn K (.ref (He.ga K "_law_others_right")) = true := let ⟨_, F⟩ := a.F__law_others_right; F.kp
theorem Ax0.k__law_draw (a : Ax0 K mg) : PySem.W.keepIn K (.ref (He.ga K "_law_draw")) = true := let ⟨_, F⟩ := a.F__law_draw; F.kp
theorem Ax0.k__law_one (a : Ax0 K mg) : PySem.W.keepIn K (.ref (He.ga K "_law_one")) = true := let ⟨_, F⟩ := a.F__law_one; F.kp
theorem Ax0.k__law_indexes (a : Ax0 K mg) : PySem.W.keepIn K (.ref (He.ga K "_law_indexes")) = true := let ⟨_, F⟩ := a.F__law_indexes; F.kp
theorem Ax0.k__law_right (a : Ax0 K mg) : PySem.W.keepIn K (.ref (He.ga K "_law_right")) = true := let ⟨_, F⟩ := a.F__law_right; F.kp
theorem Ax0.k__law_bag (a : Ax0 K mg) : PySem.W.keepIn K (.ref (He.ga K "_law_bag")) = true := let ⟨_, F⟩ := a.F__law_bag; F.kp
theorem sc_InvalidSigns___init__ : FnScope ["self", "value"] ["self", "value"] (defScope st_InvalidSigns___init__) := ⟨rfl, rfl, rfl, by decide +kernel, rfl, by decide +kernel, by decide +kernel⟩
theorem mkx_InvalidSigns {X : Cx} (a : Ax X.K X.mg X.base) (hw : X.w = WorldI.w := by rfl) : MkX X 1 "InvalidSigns" ["value"] :=
  let ⟨fd, F⟩ := a.F_InvalidSigns___init__
  ⟨a.x_InvalidSigns, by simp, fd, _, init1 a.x_InvalidSigns F sc_InvalidSigns___init__ rfl rfl (.inl rfl) (.inl rfl) a.xn_InvalidSigns_value, bdN F [] fun _ _ _ _ _ _ us ws h1 h2 => match us, ws, h1, h2 with | [_, _], [], _, _ => rfl⟩
theorem sc_InvalidRow___init__ : FnScope ["self", "value"] ["self", "value"] (defScope st_InvalidRow___init__) := ⟨rfl, rfl, rfl, by decide +kernel, rfl, by decide +kernel, by decide +kernel⟩
theorem mkx_InvalidRow {X : Cx} (a : Ax X.K X.mg X.base) (hw : X.w = WorldI.w := by rfl) : MkX X 1 "InvalidRow" ["value"] :=
  let ⟨fd, F⟩ := a.F_InvalidRow___init__
  ⟨a.x_InvalidRow, by simp, fd, _, init1 a.x_InvalidRow F sc_InvalidRow___init__ rfl rfl (.inl rfl) (.inl rfl) a.xn_InvalidRow_value, bdN F [] fun _ _ _ _ _ _ us ws h1 h2 => match us, ws, h1, h2 with | [_, _], [], _, _ => rfl⟩
theorem sc_InvalidNumber___init__ : FnScope ["self", "value"] ["self", "value"] (defScope st_InvalidNumber___init__) := ⟨rfl, rfl, rfl, by decide +kernel, rfl, by decide +kernel, by decide +kernel⟩
theorem mkx_InvalidNumber {X : Cx} (a : Ax X.K X.mg X.base) (hw : X.w = WorldI.w := by rfl) : MkX X 1 "InvalidNumber" ["value"] :=
  let ⟨fd, F⟩ := a.F_InvalidNumber___init__
  ⟨a.x_InvalidNumber, by simp, fd, _, init1 a.x_InvalidNumber F sc_InvalidNumber___init__ rfl rfl (.inl rfl) (.inl rfl) a.xn_InvalidNumber_value, bdN F [] fun _ _ _ _ _ _ us ws h1 h2 => match us, ws, h1, h2 with | [_, _], [], _, _ => rfl⟩
theorem sc_InvalidRules___init__ : FnScope ["self", "index"] ["self", "index"] (defScope st_InvalidRules___init__) := ⟨rfl, rfl, rfl, by decide +kernel, rfl, by decide +kernel, by decide +kernel⟩
theorem mkx_InvalidRules {X : Cx} (a : Ax X.K X.mg X.base) (hw : X.w = WorldI.w := by rfl) : MkX X 1 "InvalidRules" ["index"] :=
  let ⟨fd, F⟩ := a.F_InvalidRules___init__
  ⟨a.x_InvalidRules, by simp, fd, _, init1 a.x_InvalidRules F sc_InvalidRules___init__ rfl rfl (.inl rfl) (.inl rfl) a.xn_InvalidRules_index, bdN F [] fun _ _ _ _ _ _ us ws h1 h2 => match us, ws, h1, h2 with | [_, _], [], _, _ => rfl⟩
theorem sc_InvalidEdge___init__ : FnScope ["self", "value"] ["self", "value"] (defScope st_InvalidEdge___init__) := ⟨rfl, rfl, rfl, by decide +kernel, rfl, by decide +kernel, by decide +kernel⟩
theorem mkx_InvalidEdge {X : Cx} (a : Ax X.K X.mg X.base) (hw : X.w = WorldI.w := by rfl) : MkX X 1 "InvalidEdge" ["value"] :=
  let ⟨fd, F⟩ := a.F_InvalidEdge___init__
  ⟨a.x_InvalidEdge, by simp, fd, _, init1 a.x_InvalidEdge F sc_InvalidEdge___init__ rfl rfl (.inl rfl) (.inl rfl) a.xn_InvalidEdge_value, bdN F [] fun _ _ _ _ _ _ us ws h1 h2 => match us, ws, h1, h2 with | [_, _], [], _, _ => rfl⟩
theorem sc_InvalidPasses___init__ : FnScope ["self", "index"] ["self", "index"] (defScope st_InvalidPasses___init__) := ⟨rfl, rfl, rfl, by decide +kernel, rfl, by decide +kernel, by decide +kernel⟩
theorem mkx_InvalidPasses {X : Cx} (a : Ax X.K X.mg X.base) (hw : X.w = WorldI.w := by rfl) : MkX X 1 "InvalidPasses" ["index"] :=
  let ⟨fd, F⟩ := a.F_InvalidPasses___init__
  ⟨a.x_InvalidPasses, by simp, fd, _, init1 a.x_InvalidPasses F sc_InvalidPasses___init__ rfl rfl (.inl rfl) (.inl rfl) a.xn_InvalidPasses_index, bdN F [] fun _ _ _ _ _ _ us ws h1 h2 => match us, ws, h1, h2 with | [_, _], [], _, _ => rfl⟩
theorem sc_InvalidWords___init__ : FnScope ["self", "index"] ["self", "index"] (defScope st_InvalidWords___init__) := ⟨rfl, rfl, rfl, by decide +kernel, rfl, by decide +kernel, by decide +kernel⟩
theorem mkx_InvalidWords {X : Cx} (a : Ax X.K X.mg X.base) (hw : X.w = WorldI.w := by rfl) : MkX X 1 "InvalidWords" ["index"] :=
  let ⟨fd, F⟩ := a.F_InvalidWords___init__
  ⟨a.x_InvalidWords, by simp, fd, _, init1 a.x_InvalidWords F sc_InvalidWords___init__ rfl rfl (.inl rfl) (.inl rfl) a.xn_InvalidWords_index, bdN F [] fun _ _ _ _ _ _ us ws h1 h2 => match us, ws, h1, h2 with | [_, _], [], _, _ => rfl⟩
theorem sc_InvalidText___init__ : FnScope ["self", "value"] ["self", "value"] (defScope st_InvalidText___init__) := ⟨rfl, rfl, rfl, by decide +kernel, rfl, by decide +kernel, by decide +kernel⟩
theorem mkx_InvalidText {X : Cx} (a : Ax X.K X.mg X.base) (hw : X.w = WorldI.w := by rfl) : MkX X 1 "InvalidText" ["value"] :=
  let ⟨fd, F⟩ := a.F_InvalidText___init__
  ⟨a.x_InvalidText, by simp, fd, _, init1 a.x_InvalidText F sc_InvalidText___init__ rfl rfl (.inl rfl) (.inl rfl) a.xn_InvalidText_value, bdN F [] fun _ _ _ _ _ _ us ws h1 h2 => match us, ws, h1, h2 with | [_, _], [], _, _ => rfl⟩
theorem sc_InvalidGuards___init__ : FnScope ["self", "index"] ["self", "index"] (defScope st_InvalidGuards___init__) := ⟨rfl, rfl, rfl, by decide +kernel, rfl, by decide +kernel, by decide +kernel⟩
theorem mkx_InvalidGuards {X : Cx} (a : Ax X.K X.mg X.base) (hw : X.w = WorldI.w := by rfl) : MkX X 1 "InvalidGuards" ["index"] :=
  let ⟨fd, F⟩ := a.F_InvalidGuards___init__
  ⟨a.x_InvalidGuards, by simp, fd, _, init1 a.x_InvalidGuards F sc_InvalidGuards___init__ rfl rfl (.inl rfl) (.inl rfl) a.xn_InvalidGuards_index, bdN F [] fun _ _ _ _ _ _ us ws h1 h2 => match us, ws, h1, h2 with | [_, _], [], _, _ => rfl⟩
theorem sc_InvalidDeed___init__ : FnScope ["self", "index"] ["self", "index"] (defScope st_InvalidDeed___init__) := ⟨rfl, rfl, rfl, by decide +kernel, rfl, by decide +kernel, by decide +kernel⟩
theorem mkx_InvalidDeed {X : Cx} (a : Ax X.K X.mg X.base) (hw : X.w = WorldI.w := by rfl) : MkX X 1 "InvalidDeed" ["index"] :=
  let ⟨fd, F⟩ := a.F_InvalidDeed___init__
  ⟨a.x_InvalidDeed, by simp, fd, _, init1 a.x_InvalidDeed F sc_InvalidDeed___init__ rfl rfl (.inl rfl) (.inl rfl) a.xn_InvalidDeed_index, bdN F [] fun _ _ _ _ _ _ us ws h1 h2 => match us, ws, h1, h2 with | [_, _], [], _, _ => rfl⟩
theorem sc_InvalidLine___init__ : FnScope ["self", "value"] ["self", "value"] (defScope st_InvalidLine___init__) := ⟨rfl, rfl, rfl, by decide +kernel, rfl, by decide +kernel, by decide +kernel⟩
theorem mkx_InvalidLine {X : Cx} (a : Ax X.K X.mg X.base) (hw : X.w = WorldI.w := by rfl) : MkX X 1 "InvalidLine" ["value"] :=
  let ⟨fd, F⟩ := a.F_InvalidLine___init__
  ⟨a.x_InvalidLine, by simp, fd, _, init1 a.x_InvalidLine F sc_InvalidLine___init__ rfl rfl (.inl rfl) (.inl rfl) a.xn_InvalidLine_value, bdN F [] fun _ _ _ _ _ _ us ws h1 h2 => match us, ws, h1, h2 with | [_, _], [], _, _ => rfl⟩
theorem sc_NotAPass___init__ : FnScope ["self", "value"] ["self", "value"] (defScope st_NotAPass___init__) := ⟨rfl, rfl, rfl, by decide +kernel, rfl, by decide +kernel, by decide +kernel⟩
theorem mkx_NotAPass {X : Cx} (a : Ax X.K X.mg X.base) (hw : X.w = WorldI.w := by rfl) : MkX X 1 "NotAPass" ["value"] :=
  let ⟨fd, F⟩ := a.F_NotAPass___init__
  ⟨a.x_NotAPass, by simp, fd, _, init1 a.x_NotAPass F sc_NotAPass___init__ rfl rfl (.inl rfl) (.inl rfl) a.xn_NotAPass_value, bdN F [] fun _ _ _ _ _ _ us ws h1 h2 => match us, ws, h1, h2 with | [_, _], [], _, _ => rfl⟩
theorem sc_NotAChain___init__ : FnScope ["self", "value"] ["self", "value"] (defScope st_NotAChain___init__) := ⟨rfl, rfl, rfl, by decide +kernel, rfl, by decide +kernel, by decide +kernel⟩
theorem mkx_NotAChain {X : Cx} (a : Ax X.K X.mg X.base) (hw : X.w = WorldI.w := by rfl) : MkX X 1 "NotAChain" ["value"] :=
  let ⟨fd, F⟩ := a.F_NotAChain___init__
  ⟨a.x_NotAChain, by simp, fd, _, init1 a.x_NotAChain F sc_NotAChain___init__ rfl rfl (.inl rfl) (.inl rfl) a.xn_NotAChain_value, bdN F [] fun _ _ _ _ _ _ us ws h1 h2 => match us, ws, h1, h2 with | [_, _], [], _, _ => rfl⟩
theorem sc_NotBans___init__ : FnScope ["self", "value"] ["self", "value"] (defScope st_NotBans___init__) := ⟨rfl, rfl, rfl, by decide +kernel, rfl, by decide +kernel, by decide +kernel⟩
theorem mkx_NotBans {X : Cx} (a : Ax X.K X.mg X.base) (hw : X.w = WorldI.w := by rfl) : MkX X 1 "NotBans" ["value"] :=
  let ⟨fd, F⟩ := a.F_NotBans___init__
  ⟨a.x_NotBans, by simp, fd, _, init1 a.x_NotBans F sc_NotBans___init__ rfl rfl (.inl rfl) (.inl rfl) a.xn_NotBans_value, bdN F [] fun _ _ _ _ _ _ us ws h1 h2 => match us, ws, h1, h2 with | [_, _], [], _, _ => rfl⟩
theorem sc_OtherSigns___init__ : FnScope ["self", "given"] ["self", "given"] (defScope st_OtherSigns___init__) := ⟨rfl, rfl, rfl, by decide +kernel, rfl, by decide +kernel, by decide +kernel⟩
theorem mkx_OtherSigns {X : Cx} (a : Ax X.K X.mg X.base) (hw : X.w = WorldI.w := by rfl) : MkX X 1 "OtherSigns" ["given"] :=
  let ⟨fd, F⟩ := a.F_OtherSigns___init__
  ⟨a.x_OtherSigns, by simp, fd, _, init1 a.x_OtherSigns F sc_OtherSigns___init__ rfl rfl (.inl rfl) (.inl rfl) a.xn_OtherSigns_given, bdN F [] fun _ _ _ _ _ _ us ws h1 h2 => match us, ws, h1, h2 with | [_, _], [], _, _ => rfl⟩
theorem sc_Lossy___init__ : FnScope ["self", "one", "two"] ["self", "one", "two"] (defScope st_Lossy___init__) := ⟨rfl, rfl, rfl, by decide +kernel, rfl, by decide +kernel, by decide +kernel⟩
theorem mkx_Lossy {X : Cx} (a : Ax X.K X.mg X.base) (hw : X.w = WorldI.w := by rfl) : MkX X 1 "Lossy" ["one", "two"] :=
  let ⟨fd, F⟩ := a.F_Lossy___init__
  ⟨a.x_Lossy, by simp, fd, _, init2 a.x_Lossy F sc_Lossy___init__ rfl rfl rfl (.inl rfl) (.inl rfl) (.inl rfl) a.xn_Lossy_one a.xn_Lossy_two, bdN F [] fun _ _ _ _ _ _ us ws h1 h2 => match us, ws, h1, h2 with | [_, _, _], [], _, _ => rfl⟩
theorem sc_Refused___init__ : FnScope ["self", "deed", "shown"] ["self", "deed", "shown"] (defScope st_Refused___init__) := ⟨rfl, rfl, rfl, by decide +kernel, rfl, by decide +kernel, by decide +kernel⟩
theorem mkx_Refused {X : Cx} (a : Ax X.K X.mg X.base) (hw : X.w = WorldI.w := by rfl) : MkX X 1 "Refused" ["deed", "shown"] :=
  let ⟨fd, F⟩ := a.F_Refused___init__
  ⟨a.x_Refused, by simp, fd, _, init2 a.x_Refused F sc_Refused___init__ rfl rfl rfl (.inl rfl) (.inl rfl) (.inl rfl) a.xn_Refused_deed a.xn_Refused_shown, bdN F [] fun _ _ _ _ _ _ us ws h1 h2 => match us, ws, h1, h2 with | [_, _, _], [], _, _ => rfl⟩
theorem sc_TooMany___init__ : FnScope ["self", "limit"] ["self", "limit"] (defScope st_TooMany___init__) := ⟨rfl, rfl, rfl, by decide +kernel, rfl, by decide +kernel, by decide +kernel⟩
theorem mkx_TooMany {X : Cx} (a : Ax X.K X.mg X.base) (hw : X.w = WorldI.w := by rfl) : MkX X 1 "TooMany" ["limit"] :=
  let ⟨fd, F⟩ := a.F_TooMany___init__
  ⟨a.x_TooMany, by simp, fd, _, init1 a.x_TooMany F sc_TooMany___init__ rfl rfl (.inl rfl) (.inl rfl) a.xn_TooMany_limit, bdN F [] fun _ _ _ _ _ _ us ws h1 h2 => match us, ws, h1, h2 with | [_, _], [], _, _ => rfl⟩
theorem sc_TooWide___init__ : FnScope ["self", "limit"] ["self", "limit"] (defScope st_TooWide___init__) := ⟨rfl, rfl, rfl, by decide +kernel, rfl, by decide +kernel, by decide +kernel⟩
theorem mkx_TooWide {X : Cx} (a : Ax X.K X.mg X.base) (hw : X.w = WorldI.w := by rfl) : MkX X 1 "TooWide" ["limit"] :=
  let ⟨fd, F⟩ := a.F_TooWide___init__
  ⟨a.x_TooWide, by simp, fd, _, init1 a.x_TooWide F sc_TooWide___init__ rfl rfl (.inl rfl) (.inl rfl) a.xn_TooWide_limit, bdN F [] fun _ _ _ _ _ _ us ws h1 h2 => match us, ws, h1, h2 with | [_, _], [], _, _ => rfl⟩
theorem mkxk_NotBans_value {X : Cx} (a : Ax X.K X.mg X.base) (hw : X.w = WorldI.w := by rfl) : MkXK X 1 "NotBans" ["value"] ["value"] [.inl 0] :=
  let ⟨fd, F⟩ := a.F_NotBans___init__
  ⟨a.x_NotBans, fd, _, _, init1 a.x_NotBans F sc_NotBans___init__ rfl rfl (.inl rfl) (.inl rfl) a.xn_NotBans_value, bdN F [.kw 0] fun _ _ _ _ _ _ us ws h1 h2 => match us, ws, h1, h2 with | [_], [_], _, _ => rfl, .arg (.nil)⟩
theorem mkxk_NotAChain_value {X : Cx} (a : Ax X.K X.mg X.base) (hw : X.w = WorldI.w := by rfl) : MkXK X 1 "NotAChain" ["value"] ["value"] [.inl 0] :=
  let ⟨fd, F⟩ := a.F_NotAChain___init__
  ⟨a.x_NotAChain, fd, _, _, init1 a.x_NotAChain F sc_NotAChain___init__ rfl rfl (.inl rfl) (.inl rfl) a.xn_NotAChain_value, bdN F [.kw 0] fun _ _ _ _ _ _ us ws h1 h2 => match us, ws, h1, h2 with | [_], [_], _, _ => rfl, .arg (.nil)⟩
theorem mkxk_NotAPass_value {X : Cx} (a : Ax X.K X.mg X.base) (hw : X.w = WorldI.w := by rfl) : MkXK X 1 "NotAPass" ["value"] ["value"] [.inl 0] :=
  let ⟨fd, F⟩ := a.F_NotAPass___init__
  ⟨a.x_NotAPass, fd, _, _, init1 a.x_NotAPass F sc_NotAPass___init__ rfl rfl (.inl rfl) (.inl rfl) a.xn_NotAPass_value, bdN F [.kw 0] fun _ _ _ _ _ _ us ws h1 h2 => match us, ws, h1, h2 with | [_], [_], _, _ => rfl, .arg (.nil)⟩
theorem mkxk_InvalidLine_value {X : Cx} (a : Ax X.K X.mg X.base) (hw : X.w = WorldI.w := by rfl) : MkXK X 1 "InvalidLine" ["value"] ["value"] [.inl 0] :=
  let ⟨fd, F⟩ := a.F_InvalidLine___init__
  ⟨a.x_InvalidLine, fd, _, _, init1 a.x_InvalidLine F sc_InvalidLine___init__ rfl rfl (.inl rfl) (.inl rfl) a.xn_InvalidLine_value, bdN F [.kw 0] fun _ _ _ _ _ _ us ws h1 h2 => match us, ws, h1, h2 with | [_], [_], _, _ => rfl, .arg (.nil)⟩
theorem mkxk_InvalidText_value {X : Cx} (a : Ax X.K X.mg X.base) (hw : X.w = WorldI.w := by rfl) : MkXK X 1 "InvalidText" ["value"] ["value"] [.inl 0] :=
  let ⟨fd, F⟩ := a.F_InvalidText___init__
  ⟨a.x_InvalidText, fd, _, _, init1 a.x_InvalidText F sc_InvalidText___init__ rfl rfl (.inl rfl) (.inl rfl) a.xn_InvalidText_value, bdN F [.kw 0] fun _ _ _ _ _ _ us ws h1 h2 => match us, ws, h1, h2 with | [_], [_], _, _ => rfl, .arg (.nil)⟩
theorem mkxk_InvalidEdge_value {X : Cx} (a : Ax X.K X.mg X.base) (hw : X.w = WorldI.w := by rfl) : MkXK X 1 "InvalidEdge" ["value"] ["value"] [.inl 0] :=
  let ⟨fd, F⟩ := a.F_InvalidEdge___init__
  ⟨a.x_InvalidEdge, fd, _, _, init1 a.x_InvalidEdge F sc_InvalidEdge___init__ rfl rfl (.inl rfl) (.inl rfl) a.xn_InvalidEdge_value, bdN F [.kw 0] fun _ _ _ _ _ _ us ws h1 h2 => match us, ws, h1, h2 with | [_], [_], _, _ => rfl, .arg (.nil)⟩
theorem mkxk_InvalidNumber_value {X : Cx} (a : Ax X.K X.mg X.base) (hw : X.w = WorldI.w := by rfl) : MkXK X 1 "InvalidNumber" ["value"] ["value"] [.inl 0] :=
  let ⟨fd, F⟩ := a.F_InvalidNumber___init__
  ⟨a.x_InvalidNumber, fd, _, _, init1 a.x_InvalidNumber F sc_InvalidNumber___init__ rfl rfl (.inl rfl) (.inl rfl) a.xn_InvalidNumber_value, bdN F [.kw 0] fun _ _ _ _ _ _ us ws h1 h2 => match us, ws, h1, h2 with | [_], [_], _, _ => rfl, .arg (.nil)⟩
theorem mkxk_InvalidRow_value {X : Cx} (a : Ax X.K X.mg X.base) (hw : X.w = WorldI.w := by rfl) : MkXK X 1 "InvalidRow" ["value"] ["value"] [.inl 0] :=
  let ⟨fd, F⟩ := a.F_InvalidRow___init__
  ⟨a.x_InvalidRow, fd, _, _, init1 a.x_InvalidRow F sc_InvalidRow___init__ rfl rfl (.inl rfl) (.inl rfl) a.xn_InvalidRow_value, bdN F [.kw 0] fun _ _ _ _ _ _ us ws h1 h2 => match us, ws, h1, h2 with | [_], [_], _, _ => rfl, .arg (.nil)⟩
theorem mkxk_InvalidSigns_value {X : Cx} (a : Ax X.K X.mg X.base) (hw : X.w = WorldI.w := by rfl) : MkXK X 1 "InvalidSigns" ["value"] ["value"] [.inl 0] :=
  let ⟨fd, F⟩ := a.F_InvalidSigns___init__
  ⟨a.x_InvalidSigns, fd, _, _, init1 a.x_InvalidSigns F sc_InvalidSigns___init__ rfl rfl (.inl rfl) (.inl rfl) a.xn_InvalidSigns_value, bdN F [.kw 0] fun _ _ _ _ _ _ us ws h1 h2 => match us, ws, h1, h2 with | [_], [_], _, _ => rfl, .arg (.nil)⟩
theorem mkxk_TooWide_limit {X : Cx} (a : Ax X.K X.mg X.base) (hw : X.w = WorldI.w := by rfl) : MkXK X 1 "TooWide" ["limit"] ["limit"] [.inl 0] :=
  let ⟨fd, F⟩ := a.F_TooWide___init__
  ⟨a.x_TooWide, fd, _, _, init1 a.x_TooWide F sc_TooWide___init__ rfl rfl (.inl rfl) (.inl rfl) a.xn_TooWide_limit, bdN F [.kw 0] fun _ _ _ _ _ _ us ws h1 h2 => match us, ws, h1, h2 with | [_], [_], _, _ => rfl, .arg (.nil)⟩
theorem mkxk_TooMany_limit {X : Cx} (a : Ax X.K X.mg X.base) (hw : X.w = WorldI.w := by rfl) : MkXK X 1 "TooMany" ["limit"] ["limit"] [.inl 0] :=
  let ⟨fd, F⟩ := a.F_TooMany___init__
  ⟨a.x_TooMany, fd, _, _, init1 a.x_TooMany F sc_TooMany___init__ rfl rfl (.inl rfl) (.inl rfl) a.xn_TooMany_limit, bdN F [.kw 0] fun _ _ _ _ _ _ us ws h1 h2 => match us, ws, h1, h2 with | [_], [_], _, _ => rfl, .arg (.nil)⟩
theorem mkxk_OtherSigns_given {X : Cx} (a : Ax X.K X.mg X.base) (hw : X.w = WorldI.w := by rfl) : MkXK X 1 "OtherSigns" ["given"] ["given"] [.inl 0] :=
  let ⟨fd, F⟩ := a.F_OtherSigns___init__
  ⟨a.x_OtherSigns, fd, _, _, init1 a.x_OtherSigns F sc_OtherSigns___init__ rfl rfl (.inl rfl) (.inl rfl) a.xn_OtherSigns_given, bdN F [.kw 0] fun _ _ _ _ _ _ us ws h1 h2 => match us, ws, h1, h2 with | [_], [_], _, _ => rfl, .arg (.nil)⟩
theorem mkxk_Refused_shown_deed {X : Cx} (a : Ax X.K X.mg X.base) (hw : X.w = WorldI.w := by rfl) : MkXK X 1 "Refused" ["deed", "shown"] ["shown", "deed"] [.inl 1, .inl 0] :=
  let ⟨fd, F⟩ := a.F_Refused___init__
  ⟨a.x_Refused, fd, _, _, init2 a.x_Refused F sc_Refused___init__ rfl rfl rfl (.inl rfl) (.inl rfl) (.inl rfl) a.xn_Refused_deed a.xn_Refused_shown, bdN F [.kw 1, .kw 0] fun _ _ _ _ _ _ us ws h1 h2 => match us, ws, h1, h2 with | [_], [_, _], _, _ => rfl, .arg (.arg (.nil))⟩
theorem mkxk_Lossy_two_one {X : Cx} (a : Ax X.K X.mg X.base) (hw : X.w = WorldI.w := by rfl) : MkXK X 1 "Lossy" ["one", "two"] ["two", "one"] [.inl 1, .inl 0] :=
  let ⟨fd, F⟩ := a.F_Lossy___init__
  ⟨a.x_Lossy, fd, _, _, init2 a.x_Lossy F sc_Lossy___init__ rfl rfl rfl (.inl rfl) (.inl rfl) (.inl rfl) a.xn_Lossy_one a.xn_Lossy_two, bdN F [.kw 1, .kw 0] fun _ _ _ _ _ _ us ws h1 h2 => match us, ws, h1, h2 with | [_], [_, _], _, _ => rfl, .arg (.arg (.nil))⟩
theorem mkxk_InvalidDeed_index {X : Cx} (a : Ax X.K X.mg X.base) (hw : X.w = WorldI.w := by rfl) : MkXK X 1 "InvalidDeed" ["index"] ["index"] [.inl 0] :=
  let ⟨fd, F⟩ := a.F_InvalidDeed___init__
  ⟨a.x_InvalidDeed, fd, _, _, init1 a.x_InvalidDeed F sc_InvalidDeed___init__ rfl rfl (.inl rfl) (.inl rfl) a.xn_InvalidDeed_index, bdN F [.kw 0] fun _ _ _ _ _ _ us ws h1 h2 => match us, ws, h1, h2 with | [_], [_], _, _ => rfl, .arg (.nil)⟩
theorem mkxk_InvalidGuards_index {X : Cx} (a : Ax X.K X.mg X.base) (hw : X.w = WorldI.w := by rfl) : MkXK X 1 "InvalidGuards" ["index"] ["index"] [.inl 0] :=
  let ⟨fd, F⟩ := a.F_InvalidGuards___init__
  ⟨a.x_InvalidGuards, fd, _, _, init1 a.x_InvalidGuards F sc_InvalidGuards___init__ rfl rfl (.inl rfl) (.inl rfl) a.xn_InvalidGuards_index, bdN F [.kw 0] fun _ _ _ _ _ _ us ws h1 h2 => match us, ws, h1, h2 with | [_], [_], _, _ => rfl, .arg (.nil)⟩
theorem mkxk_InvalidWords_index {X : Cx} (a : Ax X.K X.mg X.base) (hw : X.w = WorldI.w := by rfl) : MkXK X 1 "InvalidWords" ["index"] ["index"] [.inl 0] :=
  let ⟨fd, F⟩ := a.F_InvalidWords___init__
  ⟨a.x_InvalidWords, fd, _, _, init1 a.x_InvalidWords F sc_InvalidWords___init__ rfl rfl (.inl rfl) (.inl rfl) a.xn_InvalidWords_index, bdN F [.kw 0] fun _ _ _ _ _ _ us ws h1 h2 => match us, ws, h1, h2 with | [_], [_], _, _ => rfl, .arg (.nil)⟩
theorem mkxk_InvalidPasses_index {X : Cx} (a : Ax X.K X.mg X.base) (hw : X.w = WorldI.w := by rfl) : MkXK X 1 "InvalidPasses" ["index"] ["index"] [.inl 0] :=
  let ⟨fd, F⟩ := a.F_InvalidPasses___init__
  ⟨a.x_InvalidPasses, fd, _, _, init1 a.x_InvalidPasses F sc_InvalidPasses___init__ rfl rfl (.inl rfl) (.inl rfl) a.xn_InvalidPasses_index, bdN F [.kw 0] fun _ _ _ _ _ _ us ws h1 h2 => match us, ws, h1, h2 with | [_], [_], _, _ => rfl, .arg (.nil)⟩
theorem mkxk_InvalidRules_index {X : Cx} (a : Ax X.K X.mg X.base) (hw : X.w = WorldI.w := by rfl) : MkXK X 1 "InvalidRules" ["index"] ["index"] [.inl 0] :=
  let ⟨fd, F⟩ := a.F_InvalidRules___init__
  ⟨a.x_InvalidRules, fd, _, _, init1 a.x_InvalidRules F sc_InvalidRules___init__ rfl rfl (.inl rfl) (.inl rfl) a.xn_InvalidRules_index, bdN F [.kw 0] fun _ _ _ _ _ _ us ws h1 h2 => match us, ws, h1, h2 with | [_], [_], _, _ => rfl, .arg (.nil)⟩
/-! ### _law_values -/
theorem sc__law_values : FnScope ["_law_thing", "_law_found"] ["_law_thing"] (defScope st__law_values) := ⟨rfl, rfl, rfl, by decide +kernel, rfl, by decide +kernel, by decide +kernel⟩
theorem ok__law_values (a : Ax K mg base) {f : Addr} {fd : FuncData} (F : FunD K "_law_values" "_law_values" (defArgs st__law_values) (defBody st__law_values) (defScope st__law_values) [] [] f fd) : Nu.FnOk P WorldI.w K mg base (L2N.CX P WorldI.w) 3 f fd ["_law_thing"] (spM K ms__law_values m__law_values) :=
  fn_body F sc__law_values rfl fun cdv A outer s H vs E hr => (dss_cons (ds_set sc__law_values.nd rfl (.inl rfl) (de_lst (da_cons (do_of (de_mkE rfl (mkx_InvalidSigns a) (hr.mono (by decide)) takes_cx rfl a.g_InvalidSigns (da_cons (do_of (de_name (pv 0))) da_nil))) (da_cons (do_of (de_mkE rfl (mkx_InvalidRow a) (hr.mono (by decide)) takes_cx rfl a.g_InvalidRow (da_cons (do_of (de_name (pv 0))) da_nil))) (da_cons (do_of (de_mkE rfl (mkx_InvalidNumber a) (hr.mono (by decide)) takes_cx rfl a.g_InvalidNumber (da_cons (do_of (de_name (pv 0))) da_nil))) (da_cons (do_of (de_mkE rfl (mkx_InvalidEdge a) (hr.mono (by decide)) takes_cx rfl a.g_InvalidEdge (da_cons (do_of (de_name (pv 0))) da_nil))) da_nil)))))) (dss_cons (ds_set sc__law_values.nd rfl (.inl rfl) (de_add rfl (do_name (pv 1)) (do_of (de_lst (da_cons (do_of (de_mkE rfl (mkx_InvalidText a) (hr.mono (by decide)) takes_cx rfl a.g_InvalidText (da_cons (do_of (de_name (pv 0))) da_nil))) (da_cons (do_of (de_mkE rfl (mkx_InvalidLine a) (hr.mono (by decide)) takes_cx rfl a.g_InvalidLine (da_cons (do_of (de_name (pv 0))) da_nil))) (da_cons (do_of (de_mkE rfl (mkx_NotAPass a) (hr.mono (by decide)) takes_cx rfl a.g_NotAPass (da_cons (do_of (de_name (pv 0))) da_nil))) (da_cons (do_of (de_mkE rfl (mkx_NotAChain a) (hr.mono (by decide)) takes_cx rfl a.g_NotAChain (da_cons (do_of (de_name (pv 0))) da_nil))) da_nil)))))))) (dss_cons (ds_set sc__law_values.nd rfl (.inl rfl) (de_add rfl (do_name (pv 1)) (do_of (de_lst (da_cons (do_of (de_mkE rfl (mkx_NotBans a) (hr.mono (by decide)) takes_cx rfl a.g_NotBans (da_cons (do_of (de_name (pv 0))) da_nil))) (da_cons (do_of (de_mkEk (ks := ["value"]) rfl (mkxk_InvalidSigns_value a) (hr.mono (by decide)) takes_cx rfl a.g_InvalidSigns (dk_cons (do_of (de_name (pv 0))) dk_nil) rfl)) (da_cons (do_of (de_mkEk (ks := ["value"]) rfl (mkxk_InvalidRow_value a) (hr.mono (by decide)) takes_cx rfl a.g_InvalidRow (dk_cons (do_of (de_name (pv 0))) dk_nil) rfl)) da_nil))))))) (dss_cons (ds_set sc__law_values.nd rfl (.inl rfl) (de_add rfl (do_name (pv 1)) (do_of (de_lst (da_cons (do_of (de_mkEk (ks := ["value"]) rfl (mkxk_InvalidNumber_value a) (hr.mono (by decide)) takes_cx rfl a.g_InvalidNumber (dk_cons (do_of (de_name (pv 0))) dk_nil) rfl)) (da_cons (do_of (de_mkEk (ks := ["value"]) rfl (mkxk_InvalidEdge_value a) (hr.mono (by decide)) takes_cx rfl a.g_InvalidEdge (dk_cons (do_of (de_name (pv 0))) dk_nil) rfl)) (da_cons (do_of (de_mkEk (ks := ["value"]) rfl (mkxk_InvalidText_value a) (hr.mono (by decide)) takes_cx rfl a.g_InvalidText (dk_cons (do_of (de_name (pv 0))) dk_nil) rfl)) da_nil))))))) (dss_cons (ds_set sc__law_values.nd rfl (.inl rfl) (de_add rfl (do_name (pv 1)) (do_of (de_lst (da_cons (do_of (de_mkEk (ks := ["value"]) rfl (mkxk_InvalidLine_value a) (hr.mono (by decide)) takes_cx rfl a.g_InvalidLine (dk_cons (do_of (de_name (pv 0))) dk_nil) rfl)) (da_cons (do_of (de_mkEk (ks := ["value"]) rfl (mkxk_NotAPass_value a) (hr.mono (by decide)) takes_cx rfl a.g_NotAPass (dk_cons (do_of (de_name (pv 0))) dk_nil) rfl)) (da_cons (do_of (de_mkEk (ks := ["value"]) rfl (mkxk_NotAChain_value a) (hr.mono (by decide)) takes_cx rfl a.g_NotAChain (dk_cons (do_of (de_name (pv 0))) dk_nil) rfl)) da_nil))))))) (dss_cons (ds_set sc__law_values.nd rfl (.inl rfl) (de_add rfl (do_name (pv 1)) (do_of (de_lst (da_cons (do_of (de_mkEk (ks := ["value"]) rfl (mkxk_NotBans_value a) (hr.mono (by decide)) takes_cx rfl a.g_NotBans (dk_cons (do_of (de_name (pv 0))) dk_nil) rfl)) da_nil))))) (dss_one (ds_retV (pv 1)))))))))
theorem fv__law_values_1 (a : Ax K mg base) : FnV P WorldI.w K mg base 3 (He.ga K "_law_values") 1 [] [] ms__law_values m__law_values :=
  let ⟨fd, F⟩ := a.F__law_values
  ⟨fd, _, _, ok__law_values a F, bdN F [] fun _ _ _ _ _ _ us ws h1 h2 => match us, ws, h1, h2 with | [_], [], _, _ => rfl, .nil⟩
/-! ### _law_classes -/
theorem sc__law_classes : FnScope ["_law_e", "_law_found"] ["_law_e"] (defScope st__law_classes) := ⟨rfl, rfl, rfl, by decide +kernel, rfl, by decide +kernel, by decide +kernel⟩
theorem ok__law_classes (a : Ax K mg base) {f : Addr} {fd : FuncData} (F : FunD K "_law_classes" "_law_classes" (defArgs st__law_classes) (defBody st__law_classes) (defScope st__law_classes) [] [] f fd) : Nu.FnOk P WorldI.w K mg base (L2N.CX P WorldI.w) 1 f fd ["_law_e"] (spM K ms__law_classes m__law_classes) :=
  fn_body F sc__law_classes rfl fun cdv A outer s H vs E hr => (dss_cons (ds_set sc__law_classes.nd rfl (.inl rfl) (de_lst (da_cons (do_of (de_isE (t := .own "InvalidSigns") rfl (isx_of a.xis a.kt_InvalidSigns) rfl a.f_isinstance boot_isinstance (do_name (pv 0)) (pe_glob (v := .ref (He.ga _ "InvalidSigns")) rfl a.g_InvalidSigns rfl))) (da_cons (do_of (de_isE (t := .own "InvalidRow") rfl (isx_of a.xis a.kt_InvalidRow) rfl a.f_isinstance boot_isinstance (do_name (pv 0)) (pe_glob (v := .ref (He.ga _ "InvalidRow")) rfl a.g_InvalidRow rfl))) (da_cons (do_of (de_isE (t := .own "InvalidNumber") rfl (isx_of a.xis a.kt_InvalidNumber) rfl a.f_isinstance boot_isinstance (do_name (pv 0)) (pe_glob (v := .ref (He.ga _ "InvalidNumber")) rfl a.g_InvalidNumber rfl))) da_nil))))) (dss_cons (ds_set sc__law_classes.nd rfl (.inl rfl) (de_add rfl (do_name (pv 1)) (do_of (de_lst (da_cons (do_of (de_isE (t := .own "InvalidRules") rfl (isx_of a.xis a.kt_InvalidRules) rfl a.f_isinstance boot_isinstance (do_name (pv 0)) (pe_glob (v := .ref (He.ga _ "InvalidRules")) rfl a.g_InvalidRules rfl))) (da_cons (do_of (de_isE (t := .own "InvalidEdge") rfl (isx_of a.xis a.kt_InvalidEdge) rfl a.f_isinstance boot_isinstance (do_name (pv 0)) (pe_glob (v := .ref (He.ga _ "InvalidEdge")) rfl a.g_InvalidEdge rfl))) da_nil)))))) (dss_cons (ds_set sc__law_classes.nd rfl (.inl rfl) (de_add rfl (do_name (pv 1)) (do_of (de_lst (da_cons (do_of (de_isE (t := .own "InvalidPasses") rfl (isx_of a.xis a.kt_InvalidPasses) rfl a.f_isinstance boot_isinstance (do_name (pv 0)) (pe_glob (v := .ref (He.ga _ "InvalidPasses")) rfl a.g_InvalidPasses rfl))) (da_cons (do_of (de_isE (t := .own "InvalidWords") rfl (isx_of a.xis a.kt_InvalidWords) rfl a.f_isinstance boot_isinstance (do_name (pv 0)) (pe_glob (v := .ref (He.ga _ "InvalidWords")) rfl a.g_InvalidWords rfl))) da_nil)))))) (dss_cons (ds_set sc__law_classes.nd rfl (.inl rfl) (de_add rfl (do_name (pv 1)) (do_of (de_lst (da_cons (do_of (de_isE (t := .own "InvalidText") rfl (isx_of a.xis a.kt_InvalidText) rfl a.f_isinstance boot_isinstance (do_name (pv 0)) (pe_glob (v := .ref (He.ga _ "InvalidText")) rfl a.g_InvalidText rfl))) (da_cons (do_of (de_isE (t := .own "InvalidGuards") rfl (isx_of a.xis a.kt_InvalidGuards) rfl a.f_isinstance boot_isinstance (do_name (pv 0)) (pe_glob (v := .ref (He.ga _ "InvalidGuards")) rfl a.g_InvalidGuards rfl))) da_nil)))))) (dss_cons (ds_set sc__law_classes.nd rfl (.inl rfl) (de_add rfl (do_name (pv 1)) (do_of (de_lst (da_cons (do_of (de_isE (t := .own "InvalidDeed") rfl (isx_of a.xis a.kt_InvalidDeed) rfl a.f_isinstance boot_isinstance (do_name (pv 0)) (pe_glob (v := .ref (He.ga _ "InvalidDeed")) rfl a.g_InvalidDeed rfl))) (da_cons (do_of (de_isE (t := .own "InvalidLine") rfl (isx_of a.xis a.kt_InvalidLine) rfl a.f_isinstance boot_isinstance (do_name (pv 0)) (pe_glob (v := .ref (He.ga _ "InvalidLine")) rfl a.g_InvalidLine rfl))) (da_cons (do_of (de_isE (t := .own "NotAPass") rfl (isx_of a.xis a.kt_NotAPass) rfl a.f_isinstance boot_isinstance (do_name (pv 0)) (pe_glob (v := .ref (He.ga _ "NotAPass")) rfl a.g_NotAPass rfl))) da_nil))))))) (dss_cons (ds_set sc__law_classes.nd rfl (.inl rfl) (de_add rfl (do_name (pv 1)) (do_of (de_lst (da_cons (do_of (de_isE (t := .own "NotAChain") rfl (isx_of a.xis a.kt_NotAChain) rfl a.f_isinstance boot_isinstance (do_name (pv 0)) (pe_glob (v := .ref (He.ga _ "NotAChain")) rfl a.g_NotAChain rfl))) (da_cons (do_of (de_isE (t := .own "NotBans") rfl (isx_of a.xis a.kt_NotBans) rfl a.f_isinstance boot_isinstance (do_name (pv 0)) (pe_glob (v := .ref (He.ga _ "NotBans")) rfl a.g_NotBans rfl))) (da_cons (do_of (de_isE (t := .own "OtherSigns") rfl (isx_of a.xis a.kt_OtherSigns) rfl a.f_isinstance boot_isinstance (do_name (pv 0)) (pe_glob (v := .ref (He.ga _ "OtherSigns")) rfl a.g_OtherSigns rfl))) da_nil))))))) (dss_cons (ds_set sc__law_classes.nd rfl (.inl rfl) (de_add rfl (do_name (pv 1)) (do_of (de_lst (da_cons (do_of (de_isE (t := .own "Lossy") rfl (isx_of a.xis a.kt_Lossy) rfl a.f_isinstance boot_isinstance (do_name (pv 0)) (pe_glob (v := .ref (He.ga _ "Lossy")) rfl a.g_Lossy rfl))) (da_cons (do_of (de_isE (t := .own "NoWalk") rfl (isx_of a.xis a.kt_NoWalk) rfl a.f_isinstance boot_isinstance (do_name (pv 0)) (pe_glob (v := .ref (He.ga _ "NoWalk")) rfl a.g_NoWalk rfl))) (da_cons (do_of (de_isE (t := .own "Ended") rfl (isx_of a.xis a.kt_Ended) rfl a.f_isinstance boot_isinstance (do_name (pv 0)) (pe_glob (v := .ref (He.ga _ "Ended")) rfl a.g_Ended rfl))) da_nil))))))) (dss_cons (ds_set sc__law_classes.nd rfl (.inl rfl) (de_add rfl (do_name (pv 1)) (do_of (de_lst (da_cons (do_of (de_isE (t := .own "NothingToUndo") rfl (isx_of a.xis a.kt_NothingToUndo) rfl a.f_isinstance boot_isinstance (do_name (pv 0)) (pe_glob (v := .ref (He.ga _ "NothingToUndo")) rfl a.g_NothingToUndo rfl))) (da_cons (do_of (de_isE (t := .own "Busy") rfl (isx_of a.xis a.kt_Busy) rfl a.f_isinstance boot_isinstance (do_name (pv 0)) (pe_glob (v := .ref (He.ga _ "Busy")) rfl a.g_Busy rfl))) (da_cons (do_of (de_isE (t := .own "Refused") rfl (isx_of a.xis a.kt_Refused) rfl a.f_isinstance boot_isinstance (do_name (pv 0)) (pe_glob (v := .ref (He.ga _ "Refused")) rfl a.g_Refused rfl))) da_nil))))))) (dss_cons (ds_set sc__law_classes.nd rfl (.inl rfl) (de_add rfl (do_name (pv 1)) (do_of (de_lst (da_cons (do_of (de_isE (t := .own "TooMany") rfl (isx_of a.xis a.kt_TooMany) rfl a.f_isinstance boot_isinstance (do_name (pv 0)) (pe_glob (v := .ref (He.ga _ "TooMany")) rfl a.g_TooMany rfl))) (da_cons (do_of (de_isE (t := .own "TooWide") rfl (isx_of a.xis a.kt_TooWide) rfl a.f_isinstance boot_isinstance (do_name (pv 0)) (pe_glob (v := .ref (He.ga _ "TooWide")) rfl a.g_TooWide rfl))) da_nil)))))) (dss_one (ds_retV (pv 1))))))))))))
theorem fv__law_classes_1 (a : Ax K mg base) : FnV P WorldI.w K mg base 1 (He.ga K "_law_classes") 1 [] [] ms__law_classes m__law_classes :=
  let ⟨fd, F⟩ := a.F__law_classes
  ⟨fd, _, _, ok__law_classes a F, bdN F [] fun _ _ _ _ _ _ us ws h1 h2 => match us, ws, h1, h2 with | [_], [], _, _ => rfl, .nil⟩
/-! ### _law_is -/
theorem sc__law_is : FnScope ["_law_e", "_law_at", "_law_found", "_law_bases", "_law_above", "_law_due"] ["_law_e", "_law_at"] (defScope st__law_is) := ⟨rfl, rfl, rfl, by decide +kernel, rfl, by decide +kernel, by decide +kernel⟩
theorem ok__law_is (a : Ax K mg base) {f : Addr} {fd : FuncData} (F : FunD K "_law_is" "_law_is" (defArgs st__law_is) (defBody st__law_is) (defScope st__law_is) [] [] f fd) : Nu.FnOk P WorldI.w K mg base (L2N.CX P WorldI.w) 2 f fd ["_law_e", "_law_at"] (spM K ms__law_is m__law_is) :=
  fn_body F sc__law_is rfl fun cdv A outer s H vs E hr => (dss_cons (ds_set sc__law_is.nd rfl (.inl rfl) (de_call rfl (fv__law_classes_1 a) (hr.mono (by decide)) takes_cx rfl a.g__law_classes a.k__law_classes (dv_s (de_name (pv 0)) dv_nil))) (dss_cons (ds_set sc__law_is.nd rfl (.inl rfl) (de_lst (da_cons (do_of (de_isE (t := .own "ShapeError") rfl (isx_of a.xis a.kt_ShapeError) rfl a.f_isinstance boot_isinstance (do_name (pv 0)) (pe_glob (v := .ref (He.ga _ "ShapeError")) rfl a.g_ShapeError rfl))) (da_cons (do_of (de_isE (t := .own "QuestionError") rfl (isx_of a.xis a.kt_QuestionError) rfl a.f_isinstance boot_isinstance (do_name (pv 0)) (pe_glob (v := .ref (He.ga _ "QuestionError")) rfl a.g_QuestionError rfl))) (da_cons (do_of (de_isE (t := .own "SizeError") rfl (isx_of a.xis a.kt_SizeError) rfl a.f_isinstance boot_isinstance (do_name (pv 0)) (pe_glob (v := .ref (He.ga _ "SizeError")) rfl a.g_SizeError rfl))) da_nil))))) (dss_cons (ds_set sc__law_is.nd rfl (.inl rfl) (de_lst (da_cons (do_of (de_isE (t := .blt "ValueError") rfl (isx_of a.xis a.kt_ValueError) rfl a.f_isinstance boot_isinstance (do_name (pv 0)) (pe_bltn (v := .ty "ValueError") rfl a.f_ValueError PyProof.Rows.Boot.«ValueError» rfl))) (da_cons (do_of (de_isE (t := .blt "LookupError") rfl (isx_of a.xis a.kt_LookupError) rfl a.f_isinstance boot_isinstance (do_name (pv 0)) (pe_bltn (v := .ty "LookupError") rfl a.f_LookupError PyProof.Rows.Boot.«LookupError» rfl))) (da_cons (do_of (de_isE (t := .blt "ArithmeticError") rfl (isx_of a.xis a.kt_ArithmeticError) rfl a.f_isinstance boot_isinstance (do_name (pv 0)) (pe_bltn (v := .ty "ArithmeticError") rfl a.f_ArithmeticError PyProof.Rows.Boot.«ArithmeticError» rfl))) da_nil))))) (dss_cons (ds_set sc__law_is.nd rfl (.inl rfl) (de_lst (da_cons (do_of (de_cmp op_lt o_lt (do_name (pv 1)) (do_of de_int) (nomark _))) (da_cons (do_of (de_chain op_lt o_lt op_lt o_lt (do_of de_int) (do_name (pv 1)) (do_of de_int))) (da_cons (do_of (de_cmp op_lt o_lt (do_of de_int) (do_name (pv 1)) (nomark _))) da_nil))))) (dss_one (ds_ret (de_and (de_cmp (op_eqD (hu64 hr)) o_eq (do_of (de_cnt (pv 2) (da_cons (do_of de_bl) da_nil))) (do_of de_int) (nomark _)) (de_and (de_cmp (op_eqD (hu64 hr)) o_eq (do_of (de_idxL rfl (do_name (pv 2)) (do_of de_bl))) (do_name (pv 1)) (nomark _)) (de_and (de_cmp (op_eqD (hu64 hr)) o_eq (do_name (pv 3)) (do_name (pv 5)) (nomark _)) (de_one (de_cmp (op_eqD (hu64 hr)) o_eq (do_name (pv 4)) (do_name (pv 5)) (nomark _))))))))))))
theorem fv__law_is_2 (a : Ax K mg base) : FnV P WorldI.w K mg base 2 (He.ga K "_law_is") 2 [] [] ms__law_is m__law_is :=
  let ⟨fd, F⟩ := a.F__law_is
  ⟨fd, _, _, ok__law_is a F, bdN F [] fun _ _ _ _ _ _ us ws h1 h2 => match us, ws, h1, h2 with | [_, _], [], _, _ => rfl, .nil⟩
/-! ### _law_others_right -/
theorem sc__law_others_right : FnScope ["_law_thing", "_law_mate", "_law_pairs", "_law_deeds", "_law_some", "_law_many", "_law_wide", "_law_bare", "_law_e"] ["_law_thing", "_law_mate"] (defScope st__law_others_right) := ⟨rfl, rfl, rfl, by decide +kernel, rfl, by decide +kernel, by decide +kernel⟩
theorem ok__law_others_right (a : Ax K mg base) {f : Addr} {fd : FuncData} (F : FunD K "_law_others_right" "_law_others_right" (defArgs st__law_others_right) (defBody st__law_others_right) (defScope st__law_others_right) [] [] f fd) : Nu.FnOk P WorldI.w K mg base (L2N.CX P WorldI.w) 3 f fd ["_law_thing", "_law_mate"] (spM K ms__law_others_right m__law_others_right) :=
  fn_body F sc__law_others_right rfl fun cdv A outer s H vs E hr => (dss_cons (ds_set sc__law_others_right.nd rfl (.inl rfl) (de_lst (da_cons (do_of (de_mkE rfl (mkx_Lossy a) (hr.mono (by decide)) takes_cx rfl a.g_Lossy (da_cons (do_of (de_name (pv 0))) (da_cons (do_of (de_name (pv 1))) da_nil)))) (da_cons (do_of (de_mkEk (ks := ["two", "one"]) rfl (mkxk_Lossy_two_one a) (hr.mono (by decide)) takes_cx rfl a.g_Lossy (dk_cons (do_of (de_name (pv 1))) (dk_cons (do_of (de_name (pv 0))) dk_nil)) rfl)) da_nil)))) (dss_cons (ds_set sc__law_others_right.nd rfl (.inl rfl) (de_lst (da_cons (do_of (de_mkE rfl (mkx_Refused a) (hr.mono (by decide)) takes_cx rfl a.g_Refused (da_cons (do_of (de_name (pv 0))) (da_cons (do_of (de_name (pv 1))) da_nil)))) (da_cons (do_of (de_mkEk (ks := ["shown", "deed"]) rfl (mkxk_Refused_shown_deed a) (hr.mono (by decide)) takes_cx rfl a.g_Refused (dk_cons (do_of (de_name (pv 1))) (dk_cons (do_of (de_name (pv 0))) dk_nil)) rfl)) da_nil)))) (dss_cons (ds_if (dt_cmp (op_neD (hu64 hr)) o_ne (do_of (de_lc (own := [("_law_e", 8)]) rfl sc__law_others_right.nd (di_seq rfl (do_of (de_name (pv 2)))) (by kernel_rfl) (fun _ _ _ _ _ => (dg_name sc__law_others_right.nd rfl (.inl rfl))) (fun _ _ _ _ _ => (dts_one (PW.pt (dw_or (dt_cmp (op_neD (hu64 hr)) o_ne (do_of (de_callB (call_reprU hr) o_reprU rfl a.f_repr boot_repr (da_cons (do_of (de_lst (da_cons (do_of (de_fldE rfl (fldx_of a.xis a.fe_one (by decide)) (do_name (pv 8)))) (da_cons (do_of (de_fldE rfl (fldx_of a.xis a.fe_two (by decide)) (do_name (pv 8)))) da_nil)))) da_nil))) (do_of (de_callB (call_reprU hr) o_reprU rfl a.f_repr boot_repr (da_cons (do_of (de_lst (da_cons (do_of (de_name (pv 0))) (da_cons (do_of (de_name (pv 1))) da_nil)))) da_nil))) (nomark _)) (dw_or1 (dt_not (dt_val (de_call rfl (fv__law_is_2 a) (hr.mono (by decide)) takes_in rfl a.g__law_is a.k__law_is (dv_s (de_name (pv 8)) (dv_s de_int dv_nil)))))))))) (fun _ _ _ _ _ => (de_name (pv 8))))) (do_of (de_lst da_nil)) (nomark _)) (dss_one (ds_ret de_bl)) dss_nil) (dss_cons (ds_if (dt_cmp (op_neD (hu64 hr)) o_ne (do_of (de_lc (own := [("_law_e", 8)]) rfl sc__law_others_right.nd (di_seq rfl (do_of (de_name (pv 3)))) (by kernel_rfl) (fun _ _ _ _ _ => (dg_name sc__law_others_right.nd rfl (.inl rfl))) (fun _ _ _ _ _ => (dts_one (PW.pt (dw_or (dt_cmp (op_neD (hu64 hr)) o_ne (do_of (de_callB (call_reprU hr) o_reprU rfl a.f_repr boot_repr (da_cons (do_of (de_lst (da_cons (do_of (de_fldE rfl (fldx_of a.xis a.fe_deed (by decide)) (do_name (pv 8)))) (da_cons (do_of (de_fldE rfl (fldx_of a.xis a.fe_shown (by decide)) (do_name (pv 8)))) da_nil)))) da_nil))) (do_of (de_callB (call_reprU hr) o_reprU rfl a.f_repr boot_repr (da_cons (do_of (de_lst (da_cons (do_of (de_name (pv 0))) (da_cons (do_of (de_name (pv 1))) da_nil)))) da_nil))) (nomark _)) (dw_or1 (dt_not (dt_val (de_call rfl (fv__law_is_2 a) (hr.mono (by decide)) takes_in rfl a.g__law_is a.k__law_is (dv_s (de_name (pv 8)) (dv_s de_int dv_nil)))))))))) (fun _ _ _ _ _ => (de_name (pv 8))))) (do_of (de_lst da_nil)) (nomark _)) (dss_one (ds_ret de_bl)) dss_nil) (dss_cons (ds_set sc__law_others_right.nd rfl (.inl rfl) (de_lst (da_cons (do_of (de_mkE rfl (mkx_OtherSigns a) (hr.mono (by decide)) takes_cx rfl a.g_OtherSigns (da_cons (do_of (de_name (pv 0))) da_nil))) (da_cons (do_of (de_mkEk (ks := ["given"]) rfl (mkxk_OtherSigns_given a) (hr.mono (by decide)) takes_cx rfl a.g_OtherSigns (dk_cons (do_of (de_name (pv 0))) dk_nil) rfl)) da_nil)))) (dss_cons (ds_if (dt_cmp (op_neD (hu64 hr)) o_ne (do_of (de_lc (own := [("_law_e", 8)]) rfl sc__law_others_right.nd (di_seq rfl (do_of (de_name (pv 4)))) (by kernel_rfl) (fun _ _ _ _ _ => (dg_name sc__law_others_right.nd rfl (.inl rfl))) (fun _ _ _ _ _ => (dts_one (PW.pt (dw_or (dt_cmp (op_neD (hu64 hr)) o_ne (do_of (de_callB (call_reprU hr) o_reprU rfl a.f_repr boot_repr (da_cons (do_of (de_fldE rfl (fldx_of a.xis a.fe_given (by decide)) (do_name (pv 8)))) da_nil))) (do_of (de_callB (call_reprU hr) o_reprU rfl a.f_repr boot_repr (da_cons (do_name (pv 0)) da_nil))) (nomark _)) (dw_or1 (dt_not (dt_val (de_call rfl (fv__law_is_2 a) (hr.mono (by decide)) takes_in rfl a.g__law_is a.k__law_is (dv_s (de_name (pv 8)) (dv_s de_int dv_nil)))))))))) (fun _ _ _ _ _ => (de_name (pv 8))))) (do_of (de_lst da_nil)) (nomark _)) (dss_one (ds_ret de_bl)) dss_nil) (dss_cons (ds_parV rfl sc__law_others_right.nd rfl rfl (by decide) rfl rfl (dv_e (de_lst (da_cons (do_of (de_mkE rfl (mkx_TooMany a) (hr.mono (by decide)) takes_cx rfl a.g_TooMany (da_cons (do_of (de_name (pv 0))) da_nil))) (da_cons (do_of (de_mkEk (ks := ["limit"]) rfl (mkxk_TooMany_limit a) (hr.mono (by decide)) takes_cx rfl a.g_TooMany (dk_cons (do_of (de_name (pv 0))) dk_nil) rfl)) da_nil))) (dv_e (de_lst (da_cons (do_of (de_mkE rfl (mkx_TooWide a) (hr.mono (by decide)) takes_cx rfl a.g_TooWide (da_cons (do_of (de_name (pv 0))) da_nil))) (da_cons (do_of (de_mkEk (ks := ["limit"]) rfl (mkxk_TooWide_limit a) (hr.mono (by decide)) takes_cx rfl a.g_TooWide (dk_cons (do_of (de_name (pv 0))) dk_nil) rfl)) da_nil))) dv_nil)) rfl) (dss_cons (ds_if (dt_cmp (op_neD (hu64 hr)) o_ne (do_of (de_lc (own := [("_law_e", 8)]) rfl sc__law_others_right.nd (di_seq rfl (do_of (de_add rfl (do_name (pv 5)) (do_name (pv 6))))) (by kernel_rfl) (fun _ _ _ _ _ => (dg_name sc__law_others_right.nd rfl (.inl rfl))) (fun _ _ _ _ _ => (dts_one (dt_cmp (op_neD (hu64 hr)) o_ne (do_of (de_callB (call_reprU hr) o_reprU rfl a.f_repr boot_repr (da_cons (do_of (de_fldE rfl (fldx_of a.xis a.fe_limit (by decide)) (do_name (pv 8)))) da_nil))) (do_of (de_callB (call_reprU hr) o_reprU rfl a.f_repr boot_repr (da_cons (do_name (pv 0)) da_nil))) (nomark _)))) (fun _ _ _ _ _ => (de_name (pv 8))))) (do_of (de_lst da_nil)) (nomark _)) (dss_one (ds_ret de_bl)) dss_nil) (dss_cons (ds_if (PW.pt (dw_or (dt_cmp (op_neD (hu64 hr)) o_ne (do_of (de_lc (own := [("_law_e", 8)]) rfl sc__law_others_right.nd (di_seq rfl (do_of (de_name (pv 5)))) (by kernel_rfl) (fun _ _ _ _ _ => (dg_name sc__law_others_right.nd rfl (.inl rfl))) (fun _ _ _ _ _ => (dts_one (dt_not (dt_val (de_call rfl (fv__law_is_2 a) (hr.mono (by decide)) takes_in rfl a.g__law_is a.k__law_is (dv_s (de_name (pv 8)) (dv_s de_int dv_nil))))))) (fun _ _ _ _ _ => (de_name (pv 8))))) (do_of (de_lst da_nil)) (nomark _)) (dw_or1 (dt_cmp (op_neD (hu64 hr)) o_ne (do_of (de_lc (own := [("_law_e", 8)]) rfl sc__law_others_right.nd (di_seq rfl (do_of (de_name (pv 6)))) (by kernel_rfl) (fun _ _ _ _ _ => (dg_name sc__law_others_right.nd rfl (.inl rfl))) (fun _ _ _ _ _ => (dts_one (dt_not (dt_val (de_call rfl (fv__law_is_2 a) (hr.mono (by decide)) takes_in rfl a.g__law_is a.k__law_is (dv_s (de_name (pv 8)) (dv_s de_int dv_nil))))))) (fun _ _ _ _ _ => (de_name (pv 8))))) (do_of (de_lst da_nil)) (nomark _))))) (dss_one (ds_ret de_bl)) dss_nil) (dss_cons (ds_set sc__law_others_right.nd rfl (.inl rfl) (de_lst (da_cons (do_of (de_call rfl (fv__law_is_2 a) (hr.mono (by decide)) takes_cx rfl a.g__law_is a.k__law_is (dv_s (de_mkE0 rfl a.e0_NoWalk rfl a.g_NoWalk) (dv_s de_int dv_nil)))) (da_cons (do_of (de_call rfl (fv__law_is_2 a) (hr.mono (by decide)) takes_cx rfl a.g__law_is a.k__law_is (dv_s (de_mkE0 rfl a.e0_Ended rfl a.g_Ended) (dv_s de_int dv_nil)))) (da_cons (do_of (de_call rfl (fv__law_is_2 a) (hr.mono (by decide)) takes_cx rfl a.g__law_is a.k__law_is (dv_s (de_mkE0 rfl a.e0_NothingToUndo rfl a.g_NothingToUndo) (dv_s de_int dv_nil)))) (da_cons (do_of (de_call rfl (fv__law_is_2 a) (hr.mono (by decide)) takes_cx rfl a.g__law_is a.k__law_is (dv_s (de_mkE0 rfl a.e0_Busy rfl a.g_Busy) (dv_s de_int dv_nil)))) da_nil)))))) (dss_one (ds_ret (de_cmp (op_eqD (hu64 hr)) o_eq (do_name (pv 7)) (do_of (de_mulT rfl (do_of (de_lst (da_cons (do_of de_bl) da_nil))) (do_of de_int))) (nomark _))))))))))))))
theorem fv__law_others_right_2 (a : Ax K mg base) : FnV P WorldI.w K mg base 3 (He.ga K "_law_others_right") 2 [] [] ms__law_others_right m__law_others_right :=
  let ⟨fd, F⟩ := a.F__law_others_right
  ⟨fd, _, _, ok__law_others_right a F, bdN F [] fun _ _ _ _ _ _ us ws h1 h2 => match us, ws, h1, h2 with | [_, _], [], _, _ => rfl, .nil⟩
/-! ### _law_draw -/
theorem sc__law_draw : FnScope ["_law_bag_here", "_law_many", "_law_figure", "_law_held"] ["_law_bag_here", "_law_many"] (defScope st__law_draw) := ⟨rfl, rfl, rfl, by decide +kernel, rfl, by decide +kernel, by decide +kernel⟩
theorem ok__law_draw (a : Ax K mg base) {f : Addr} {fd : FuncData} (F : FunD K "_law_draw" "_law_draw" (defArgs st__law_draw) (defBody st__law_draw) (defScope st__law_draw) [] [] f fd) : Nu.FnOk P WorldI.w K mg base (L2N.CX P WorldI.w) 1 f fd ["_law_bag_here", "_law_many"] (spM K ms__law_draw m__law_draw) :=
  fn_body F sc__law_draw rfl fun cdv A outer s H vs E hr => (dss_cons (ds_setIx (pv 0) de_int (de_add rfl (do_of (de_ix ix_seq o_ix (do_name (pv 0)) (do_of de_int))) (do_of de_int))) (dss_cons (ds_if (dt_cmp op_gt o_gt (do_of (de_ix ix_seq o_ix (do_name (pv 0)) (do_of de_int))) (do_of de_int) (nomark _)) (dss_cons (ds_set sc__law_draw.nd rfl (.inl rfl) (de_mod (do_of (de_callTy call_int1 o_int rfl a.f_int boot_int (da_cons (do_of (de_ix ix_seq o_ix (do_name (pv 0)) (do_of de_int))) da_nil))) (do_name (pv 1)))) (dss_cons (ds_setIx (pv 0) de_int (de_div (do_of (de_ix ix_seq o_ix (do_name (pv 0)) (do_of de_int))) (do_name (pv 1)))) (dss_one (ds_retV (pv 2))))) dss_nil) (dss_cons (ds_set sc__law_draw.nd rfl (.inl rfl) (de_add rfl (do_of (de_callTy call_int1 o_int rfl a.f_int boot_int (da_cons (do_of (de_ix ix_seq o_ix (do_name (pv 0)) (do_of de_int))) da_nil))) (do_of (de_mulT rfl (do_of de_int) (do_of (de_ix ix_seq o_ix (do_name (pv 0)) (do_of de_int))))))) (dss_cons (ds_setIx (pv 0) de_int (de_mod (do_of (de_callTy call_int1 o_int rfl a.f_int boot_int (da_cons (do_of (de_add rfl (do_of (de_add rfl (do_of (de_mulT rfl (do_name (pv 3)) (do_of (de_add rfl (do_of (de_mod (do_of (de_callTy call_int1 o_int rfl a.f_int boot_int (da_cons (do_name (pv 3)) da_nil))) (do_of de_int))) (do_of de_int))))) (do_of (de_mulT rfl (do_of de_int) (do_of (de_ix ix_seq o_ix (do_name (pv 0)) (do_of de_int))))))) (do_of de_int))) da_nil))) (do_of de_int))) (dss_one (ds_ret (de_mod (do_of (de_div (do_of (de_callTy call_int1 o_int rfl a.f_int boot_int (da_cons (do_of (de_ix ix_seq o_ix (do_name (pv 0)) (do_of de_int))) da_nil))) (do_of de_int))) (do_name (pv 1)))))))))
theorem fv__law_draw_2 (a : Ax K mg base) : FnV P WorldI.w K mg base 1 (He.ga K "_law_draw") 2 [] [] ms__law_draw m__law_draw :=
  let ⟨fd, F⟩ := a.F__law_draw
  ⟨fd, _, _, ok__law_draw a F, bdN F [] fun _ _ _ _ _ _ us ws h1 h2 => match us, ws, h1, h2 with | [_, _], [], _, _ => rfl, .nil⟩
/-! ### _law_one -/
theorem sc__law_one : FnScope ["_law_bag_here", "_law_some"] ["_law_bag_here", "_law_some"] (defScope st__law_one) := ⟨rfl, rfl, rfl, by decide +kernel, rfl, by decide +kernel, by decide +kernel⟩
theorem ok__law_one (a : Ax K mg base) {f : Addr} {fd : FuncData} (F : FunD K "_law_one" "_law_one" (defArgs st__law_one) (defBody st__law_one) (defScope st__law_one) [] [] f fd) : Nu.FnOk P WorldI.w K mg base (L2N.CX P WorldI.w) 2 f fd ["_law_bag_here", "_law_some"] (spM K ms__law_one m__law_one) :=
  fn_body F sc__law_one rfl fun cdv A outer s H vs E hr => (dss_one (ds_ret (de_ix ix_seq o_ix (do_name (pv 1)) (do_of (de_call rfl (fv__law_draw_2 a) (hr.mono (by decide)) takes_cx rfl a.g__law_draw a.k__law_draw (dv_n (pv 0) (dv_s (de_callB call_len o_len rfl a.f_len boot_len (da_cons (do_name (pv 1)) da_nil)) dv_nil)))))))
theorem fv__law_one_2 (a : Ax K mg base) : FnV P WorldI.w K mg base 2 (He.ga K "_law_one") 2 [] [] ms__law_one m__law_one :=
  let ⟨fd, F⟩ := a.F__law_one
  ⟨fd, _, _, ok__law_one a F, bdN F [] fun _ _ _ _ _ _ us ws h1 h2 => match us, ws, h1, h2 with | [_, _], [], _, _ => rfl, .nil⟩
/-! ### _law_indexes -/
theorem sc__law_indexes : FnScope ["_law_thing", "_law_found"] ["_law_thing"] (defScope st__law_indexes) := ⟨rfl, rfl, rfl, by decide +kernel, rfl, by decide +kernel, by decide +kernel⟩
theorem ok__law_indexes (a : Ax K mg base) {f : Addr} {fd : FuncData} (F : FunD K "_law_indexes" "_law_indexes" (defArgs st__law_indexes) (defBody st__law_indexes) (defScope st__law_indexes) [] [] f fd) : Nu.FnOk P WorldI.w K mg base (L2N.CX P WorldI.w) 3 f fd ["_law_thing"] (spM K ms__law_indexes m__law_indexes) :=
  fn_body F sc__law_indexes rfl fun cdv A outer s H vs E hr => (dss_cons (ds_set sc__law_indexes.nd rfl (.inl rfl) (de_lst (da_cons (do_of (de_mkE rfl (mkx_InvalidRules a) (hr.mono (by decide)) takes_cx rfl a.g_InvalidRules (da_cons (do_of (de_name (pv 0))) da_nil))) (da_cons (do_of (de_mkE rfl (mkx_InvalidPasses a) (hr.mono (by decide)) takes_cx rfl a.g_InvalidPasses (da_cons (do_of (de_name (pv 0))) da_nil))) (da_cons (do_of (de_mkE rfl (mkx_InvalidWords a) (hr.mono (by decide)) takes_cx rfl a.g_InvalidWords (da_cons (do_of (de_name (pv 0))) da_nil))) (da_cons (do_of (de_mkE rfl (mkx_InvalidGuards a) (hr.mono (by decide)) takes_cx rfl a.g_InvalidGuards (da_cons (do_of (de_name (pv 0))) da_nil))) da_nil)))))) (dss_cons (ds_set sc__law_indexes.nd rfl (.inl rfl) (de_add rfl (do_name (pv 1)) (do_of (de_lst (da_cons (do_of (de_mkE rfl (mkx_InvalidDeed a) (hr.mono (by decide)) takes_cx rfl a.g_InvalidDeed (da_cons (do_of (de_name (pv 0))) da_nil))) (da_cons (do_of (de_mkEk (ks := ["index"]) rfl (mkxk_InvalidRules_index a) (hr.mono (by decide)) takes_cx rfl a.g_InvalidRules (dk_cons (do_of (de_name (pv 0))) dk_nil) rfl)) (da_cons (do_of (de_mkEk (ks := ["index"]) rfl (mkxk_InvalidPasses_index a) (hr.mono (by decide)) takes_cx rfl a.g_InvalidPasses (dk_cons (do_of (de_name (pv 0))) dk_nil) rfl)) da_nil))))))) (dss_cons (ds_set sc__law_indexes.nd rfl (.inl rfl) (de_add rfl (do_name (pv 1)) (do_of (de_lst (da_cons (do_of (de_mkEk (ks := ["index"]) rfl (mkxk_InvalidWords_index a) (hr.mono (by decide)) takes_cx rfl a.g_InvalidWords (dk_cons (do_of (de_name (pv 0))) dk_nil) rfl)) (da_cons (do_of (de_mkEk (ks := ["index"]) rfl (mkxk_InvalidGuards_index a) (hr.mono (by decide)) takes_cx rfl a.g_InvalidGuards (dk_cons (do_of (de_name (pv 0))) dk_nil) rfl)) (da_cons (do_of (de_mkEk (ks := ["index"]) rfl (mkxk_InvalidDeed_index a) (hr.mono (by decide)) takes_cx rfl a.g_InvalidDeed (dk_cons (do_of (de_name (pv 0))) dk_nil) rfl)) da_nil))))))) (dss_one (ds_retV (pv 1))))))
theorem fv__law_indexes_1 (a : Ax K mg base) : FnV P WorldI.w K mg base 3 (He.ga K "_law_indexes") 1 [] [] ms__law_indexes m__law_indexes :=
  let ⟨fd, F⟩ := a.F__law_indexes
  ⟨fd, _, _, ok__law_indexes a F, bdN F [] fun _ _ _ _ _ _ us ws h1 h2 => match us, ws, h1, h2 with | [_], [], _, _ => rfl, .nil⟩
/-! ### _law_right -/
theorem sc__law_right : FnScope ["_law_bag_here", "_law_things", "_law_thing", "_law_mate", "_law_found", "_law_places", "_law_k"] ["_law_bag_here"] (defScope st__law_right) := ⟨rfl, rfl, rfl, by decide +kernel, rfl, by decide +kernel, by decide +kernel⟩
theorem ok__law_right (a : Ax K mg base) {f : Addr} {fd : FuncData} (F : FunD K "_law_right" "_law_right" (defArgs st__law_right) (defBody st__law_right) (defScope st__law_right) [] [] f fd) : Nu.FnOk P WorldI.w K mg base (L2N.CX P WorldI.w) 4 f fd ["_law_bag_here"] (spM K ms__law_right m__law_right) :=
  fn_body F sc__law_right rfl fun cdv A outer s H vs E hr => (dss_cons (ds_set sc__law_right.nd rfl (.inl rfl) (de_lst (da_cons (do_of (de_add rfl (do_of (de_pow (do_of de_int) (do_of de_int))) (do_of de_int))) (da_cons (do_of de_non) (da_cons (do_of de_str) (da_cons (do_of (de_tup (da_cons (do_of de_int) (da_cons (do_of de_str) da_nil)))) (da_cons (do_of (de_lst (da_cons (do_of de_int) da_nil))) (da_cons (do_of de_emp) (da_cons (do_of de_bl) (da_cons (do_of (de_neg de_int)) (da_cons (do_of (de_tup (da_cons (do_of de_str) (da_cons (do_of (de_tup da_nil)) da_nil)))) (da_cons (do_of de_str) da_nil)))))))))))) (dss_cons (ds_parV rfl sc__law_right.nd rfl rfl (by decide) rfl rfl (dv_e (de_call rfl (fv__law_one_2 a) (hr.mono (by decide)) takes_cx rfl a.g__law_one a.k__law_one (dv_n (pv 0) (dv_s (de_name (pv 1)) dv_nil))) (dv_e (de_call rfl (fv__law_one_2 a) (hr.mono (by decide)) takes_cx rfl a.g__law_one a.k__law_one (dv_n (pv 0) (dv_s (de_name (pv 1)) dv_nil))) dv_nil)) rfl) (dss_cons (ds_set sc__law_right.nd rfl (.inl rfl) (de_call rfl (fv__law_values_1 a) (hr.mono (by decide)) takes_cx rfl a.g__law_values a.k__law_values (dv_s (de_name (pv 2)) dv_nil))) (dss_cons (ds_set sc__law_right.nd rfl (.inl rfl) (de_lst (da_cons (do_of de_int) (da_cons (do_of de_int) (da_cons (do_of de_int) (da_cons (do_of de_int) (da_cons (do_of de_int) (da_cons (do_of de_int) (da_cons (do_of de_int) (da_cons (do_of de_int) (da_cons (do_of de_int) da_nil))))))))))) (dss_cons (ds_pre (ds_for own_cx rfl (di_rng1 rfl a.f_range (da_cons (do_of de_int) da_nil)) (dg_name sc__law_right.nd rfl (.inl rfl)) (dss_wp (dss_one (ds_if (PW.pt (dw_or (dt_cmp (op_neD (hu64 hr)) o_ne (do_of (de_callB (call_reprU hr) o_reprU rfl a.f_repr boot_repr (da_cons (do_of (de_fldE rfl (fldx_of a.xis a.fe_value (by decide)) (do_of (de_ix ix_seq o_ix (do_name (pv 4)) (do_name (pv 6)))))) da_nil))) (do_of (de_callB (call_reprU hr) o_reprU rfl a.f_repr boot_repr (da_cons (do_name (pv 2)) da_nil))) (nomark _)) (dw_or1 (dt_not (dt_val (de_call rfl (fv__law_is_2 a) (hr.mono (by decide)) takes_cx rfl a.g__law_is a.k__law_is (dv_s (de_ix ix_seq o_ix (do_name (pv 4)) (do_name (pv 6))) (dv_s (de_ix ix_seq o_ix (do_of (de_add rfl (do_name (pv 5)) (do_name (pv 5)))) (do_name (pv 6))) dv_nil)))))))) (dss_one (ds_ret de_bl)) dss_nil))))) (dss_cons (ds_parV rfl sc__law_right.nd rfl rfl (by decide) rfl rfl (dv_e (de_call rfl (fv__law_indexes_1 a) (hr.mono (by decide)) takes_cx rfl a.g__law_indexes a.k__law_indexes (dv_s (de_name (pv 2)) dv_nil)) (dv_e (de_lst (da_cons (do_of de_int) (da_cons (do_of de_int) (da_cons (do_of de_int) (da_cons (do_of de_int) (da_cons (do_of de_int) da_nil)))))) dv_nil)) rfl) (dss_cons (ds_pre (ds_for own_cx rfl (di_rng1 rfl a.f_range (da_cons (do_of de_int) da_nil)) (dg_name sc__law_right.nd rfl (.inl rfl)) (dss_wp (dss_one (ds_if (PW.pt (dw_or (dt_cmp (op_neD (hu64 hr)) o_ne (do_of (de_callB (call_reprU hr) o_reprU rfl a.f_repr boot_repr (da_cons (do_of (de_fldE rfl (fldx_of a.xis a.fe_index (by decide)) (do_of (de_ix ix_seq o_ix (do_name (pv 4)) (do_name (pv 6)))))) da_nil))) (do_of (de_callB (call_reprU hr) o_reprU rfl a.f_repr boot_repr (da_cons (do_name (pv 2)) da_nil))) (nomark _)) (dw_or1 (dt_not (dt_val (de_call rfl (fv__law_is_2 a) (hr.mono (by decide)) takes_cx rfl a.g__law_is a.k__law_is (dv_s (de_ix ix_seq o_ix (do_name (pv 4)) (do_name (pv 6))) (dv_s (de_ix ix_seq o_ix (do_of (de_add rfl (do_name (pv 5)) (do_name (pv 5)))) (do_name (pv 6))) dv_nil)))))))) (dss_one (ds_ret de_bl)) dss_nil))))) (dss_one (ds_ret (de_call rfl (fv__law_others_right_2 a) (hr.mono (by decide)) takes_cx rfl a.g__law_others_right a.k__law_others_right (dv_s (de_name (pv 2)) (dv_s (de_name (pv 3)) dv_nil))))))))))))
theorem fv__law_right_1 (a : Ax K mg base) : FnV P WorldI.w K mg base 4 (He.ga K "_law_right") 1 [] [] ms__law_right m__law_right :=
  let ⟨fd, F⟩ := a.F__law_right
  ⟨fd, _, _, ok__law_right a F, bdN F [] fun _ _ _ _ _ _ us ws h1 h2 => match us, ws, h1, h2 with | [_], [], _, _ => rfl, .nil⟩
/-! ### _law_bag -/
theorem sc__law_bag : FnScope ["_law_cells", "_law_k", "_law_cell", "_law_seed", "_law_this", "_law_figures"] ["_law_cells", "_law_k"] (defScope st__law_bag) := ⟨rfl, rfl, rfl, by decide +kernel, rfl, by decide +kernel, by decide +kernel⟩
theorem ok__law_bag (a : Ax K mg base) {f : Addr} {fd : FuncData} (F : FunD K "_law_bag" "_law_bag" (defArgs st__law_bag) (defBody st__law_bag) (defScope st__law_bag) [] [] f fd) : Nu.FnOk P WorldI.w K mg base (L2N.CX P WorldI.w) 1 f fd ["_law_cells", "_law_k"] (spM K ms__law_bag m__law_bag) :=
  fn_body F sc__law_bag rfl fun cdv A outer s H vs E hr => (dss_cons (ds_parV rfl sc__law_bag.nd rfl rfl (by decide) rfl rfl (dv_e (de_ifE (dt_cmp op_lt o_lt (do_name (pv 1)) (do_of (de_callB call_len o_len rfl a.f_len boot_len (da_cons (do_name (pv 0)) da_nil))) (nomark _)) (de_callTy call_int1 o_int rfl a.f_int boot_int (da_cons (do_of (de_ix ix_seq o_ix (do_name (pv 0)) (do_name (pv 1)))) da_nil)) de_int) (dv_e (de_mulT rfl (do_of de_int) (do_of (de_add rfl (do_name (pv 1)) (do_of de_int)))) dv_nil)) rfl) (dss_cons (ds_pre (ds_for own_cx rfl (di_seq rfl (do_of (de_slice sl_1 o_sl (do_name (pv 0)) dp_none (dp_some de_int)))) (dg_name sc__law_bag.nd rfl (.inl rfl)) (dss_wp (dss_one (ds_set sc__law_bag.nd rfl (.inl rfl) (de_mod (do_of (de_callTy call_int1 o_int rfl a.f_int boot_int (da_cons (do_of (de_add rfl (do_of (de_add rfl (do_of (de_mulT rfl (do_name (pv 3)) (do_of de_int))) (do_of (de_mod (do_of (de_callTy call_int1 o_int rfl a.f_int boot_int (da_cons (do_name (pv 4)) da_nil))) (do_of de_int))))) (do_of (de_mulT rfl (do_of de_int) (do_name (pv 1)))))) da_nil))) (do_of de_int))))))) (dss_cons (ds_set sc__law_bag.nd rfl (.inl rfl) (de_ifE (PW.pt (dw_or (dt_cmp op_lt o_lt (do_name (pv 2)) (do_of de_int) (nomark _)) (dw_or1 (dt_cmp op_ge o_ge (do_name (pv 2)) (do_of (de_pow (do_of de_int) (do_of de_int))) (nomark _))))) (de_callB call_abs o_abs rfl a.f_abs boot_abs (da_cons (do_name (pv 2)) da_nil)) de_int)) (dss_one (ds_ret (de_lst (da_cons (do_of (de_name (pv 5))) (da_cons (do_of (de_mod (do_of (de_callTy call_int1 o_int rfl a.f_int boot_int (da_cons (do_of (de_add rfl (do_name (pv 3)) (do_of (de_mulT rfl (do_of de_int) (do_of (de_mod (do_of (de_callTy call_int1 o_int rfl a.f_int boot_int (da_cons (do_name (pv 2)) da_nil))) (do_of de_int))))))) da_nil))) (do_of de_int))) (da_cons (do_of de_int) da_nil)))))))))
theorem fv__law_bag_2 (a : Ax K mg base) : FnV P WorldI.w K mg base 1 (He.ga K "_law_bag") 2 [] [] ms__law_bag m__law_bag :=
  let ⟨fd, F⟩ := a.F__law_bag
  ⟨fd, _, _, ok__law_bag a F, bdN F [] fun _ _ _ _ _ _ us ws h1 h2 => match us, ws, h1, h2 with | [_, _], [], _, _ => rfl, .nil⟩
/-! ### law -/
theorem sc_law : FnScope ["_law_cells", "_law_limits", "_law_k"] ["_law_cells"] (defScope st_law) := ⟨rfl, rfl, rfl, by decide +kernel, rfl, by decide +kernel, by decide +kernel⟩
theorem ok_law (a : Ax K mg base) {f : Addr} {fd : FuncData} (F : FunD K "law" "law" (defArgs st_law) (defBody st_law) (defScope st_law) [] [] f fd) : Nu.FnOk P WorldI.w K mg base (L2N.CX P WorldI.w) 5 f fd ["_law_cells"] (spM K ms_law m_law) :=
  fn_body F sc_law rfl fun cdv A outer s H vs E hr => (dss_cons (ds_set sc_law.nd rfl (.inl rfl) (de_lst (da_cons (do_of (de_gint rfl a.c_MOST_SIGNS)) (da_cons (do_of (de_gint rfl a.c_MOST_REACH)) (da_cons (do_of (de_gint rfl a.c_MOST_RULES)) (da_cons (do_of (de_gint rfl a.c_MOST_PASSES)) (da_cons (do_of (de_gint rfl a.c_MOST_WORDS)) da_nil))))))) (dss_cons (ds_set sc_law.nd rfl (.inl rfl) (de_add rfl (do_name (pv 1)) (do_of (de_lst (da_cons (do_of (de_gint rfl a.c_MOST_WIDE)) (da_cons (do_of (de_gint rfl a.c_MOST_SETS)) (da_cons (do_of (de_gint rfl a.c_MOST_LENGTH)) (da_cons (do_of (de_gint rfl a.c_MOST_DEEDS)) da_nil)))))))) (dss_cons (ds_if (dt_cmp (op_neD (hu64 hr)) o_ne (do_of (de_callB (call_reprU hr) o_reprU rfl a.f_repr boot_repr (da_cons (do_name (pv 1)) da_nil))) (do_of de_str) (nomark _)) (dss_one (ds_ret de_bl)) dss_nil) (dss_one (ds_ret (de_callB (cr_all rfl) o_all rfl a.f_all boot_all (da_cons (do_of (de_lc (own := [("_law_k", 2)]) rfl sc_law.nd (di_rng1 rfl a.f_range (da_cons (do_of (de_callB (call_max2 rfl) o_max rfl a.f_max boot_max (da_cons (do_of de_int) (da_cons (do_of (de_callB (call_min2 rfl) o_min rfl a.f_min boot_min (da_cons (do_of (de_callB call_len o_len rfl a.f_len boot_len (da_cons (do_name (pv 0)) da_nil))) (da_cons (do_of de_int) da_nil)))) da_nil)))) da_nil)) (by kernel_rfl) (fun _ _ _ _ _ => (dg_name sc_law.nd rfl (.inl rfl))) (fun _ _ _ _ _ => dts_nil) (fun _ _ _ _ _ => (de_call rfl (fv__law_right_1 a) (hr.mono (by decide)) takes_in rfl a.g__law_right a.k__law_right (dv_e (de_call rfl (fv__law_bag_2 a) (hr.mono (by decide)) takes_in rfl a.g__law_bag a.k__law_bag (dv_s (de_name (pv 0)) (dv_s (de_name (pv 2)) dv_nil))) dv_nil))))) da_nil)))))))
/-! ### the head -/
theorem ax_of {h : Heap} (X : K.In h) (G : h.Ns mainGlobals mg) (c : hk.Says K) : Ax0 K mg :=
  ⟨He.free_ok X G (c.fact 0), He.free_ok X G (c.fact 1), He.free_ok X G (c.fact 2), He.free_ok X G (c.fact 3), He.free_ok X G (c.fact 4), He.free_ok X G (c.fact 5), He.free_ok X G (c.fact 6), He.free_ok X G (c.fact 7), He.free_ok X G (c.fact 8), He.free_ok X G (c.fact 9), He.free_ok X G (c.fact 10), He.free_ok X G (c.fact 11), He.int_ok X G (c.fact 12), He.int_ok X G (c.fact 13), He.int_ok X G (c.fact 14), He.int_ok X G (c.fact 15), He.int_ok X G (c.fact 16), He.int_ok X G (c.fact 17), He.int_ok X G (c.fact 18), He.int_ok X G (c.fact 19), He.int_ok X G (c.fact 20), He.glo_ok X G (c.fact 21), He.glo_ok X G (c.fact 22), He.glo_ok X G (c.fact 23), He.glo_ok X G (c.fact 24), He.glo_ok X G (c.fact 25), He.glo_ok X G (c.fact 26), He.glo_ok X G (c.fact 27), He.glo_ok X G (c.fact 28), He.glo_ok X G (c.fact 29), He.glo_ok X G (c.fact 30), He.glo_ok X G (c.fact 31), fExM_ok (c.fact 32), He.eqO_ok (c.fact 33), He.glo_ok X G (c.fact 34), fExM_ok (c.fact 35), He.eqO_ok (c.fact 36), He.glo_ok X G (c.fact 37), fExM_ok (c.fact 38), He.eqO_ok (c.fact 39), He.glo_ok X G (c.fact 40), fExM_ok (c.fact 41), He.eqO_ok (c.fact 42), He.glo_ok X G (c.fact 43), fExM_ok (c.fact 44), He.eqO_ok (c.fact 45), He.glo_ok X G (c.fact 46), fExM_ok (c.fact 47), He.eqO_ok (c.fact 48), He.glo_ok X G (c.fact 49), fExM_ok (c.fact 50), He.eqO_ok (c.fact 51), He.glo_ok X G (c.fact 52), fExM_ok (c.fact 53), He.eqO_ok (c.fact 54), He.glo_ok X G (c.fact 55), fExM_ok (c.fact 56), He.eqO_ok (c.fact 57), He.glo_ok X G (c.fact 58), fExM_ok (c.fact 59), He.eqO_ok (c.fact 60), He.glo_ok X G (c.fact 61), fExM_ok (c.fact 62), He.eqO_ok (c.fact 63), He.glo_ok X G (c.fact 64), fExM_ok (c.fact 65), He.eqO_ok (c.fact 66), He.glo_ok X G (c.fact 67), fExM_ok (c.fact 68), He.eqO_ok (c.fact 69), He.glo_ok X G (c.fact 70), fExM_ok (c.fact 71), He.eqO_ok (c.fact 72), He.glo_ok X G (c.fact 73), fExM_ok (c.fact 74), He.eqO_ok (c.fact 75), He.glo_ok X G (c.fact 76), fExM_ok (c.fact 77), He.eqO_ok (c.fact 78), He.eqO_ok (c.fact 79), He.glo_ok X G (c.fact 80), fExM_ok (c.fact 81), He.eqO_ok (c.fact 82), He.eqO_ok (c.fact 83), He.glo_ok X G (c.fact 84), fExM_ok (c.fact 85), He.eqO_ok (c.fact 86), He.glo_ok X G (c.fact 87), fExM_ok (c.fact 88), He.eqO_ok (c.fact 89), He.glo_ok X G (c.fact 90), He.glo_ok X G (c.fact 91), He.glo_ok X G (c.fact 92), He.glo_ok X G (c.fact 93), He.glo_ok X G (c.fact 94), He.glo_ok X G (c.fact 95), He.glo_ok X G (c.fact 96), fE0M_ok (c.fact 97), fE0M_ok (c.fact 98), fE0M_ok (c.fact 99), fE0M_ok (c.fact 100), fXis_ok (c.fact 101), fKt_ok (c.fact 102), fKt_ok (c.fact 103), fKt_ok (c.fact 104), fKt_ok (c.fact 105), fKt_ok (c.fact 106), fKt_ok (c.fact 107), fKt_ok (c.fact 108), fKt_ok (c.fact 109), fKt_ok (c.fact 110), fKt_ok (c.fact 111), fKt_ok (c.fact 112), fKt_ok (c.fact 113), fKt_ok (c.fact 114), fKt_ok (c.fact 115), fKt_ok (c.fact 116), fKt_ok (c.fact 117), fKt_ok (c.fact 118), fKt_ok (c.fact 119), fKt_ok (c.fact 120), fKt_ok (c.fact 121), fKt_ok (c.fact 122), fKt_ok (c.fact 123), fKt_ok (c.fact 124), fKt_ok (c.fact 125), fKt_ok (c.fact 126), fKt_ok (c.fact 127), fKt_ok (c.fact 128), fKt_ok (c.fact 129), fKt_ok (c.fact 130), fNoF_ok (c.fact 131), fNoF_ok (c.fact 132), fNoF_ok (c.fact 133), fNoF_ok (c.fact 134), fNoF_ok (c.fact 135), fNoF_ok (c.fact 136), fNoF_ok (c.fact 137), fNoF_ok (c.fact 138), c.def_ 0 (d := dd__law_values), c.def_ 1 (d := dd__law_classes), c.def_ 2 (d := dd__law_is), c.def_ 3 (d := dd__law_others_right), c.def_ 4 (d := dd__law_draw), c.def_ 5 (d := dd__law_one), c.def_ 6 (d := dd__law_indexes), c.def_ 7 (d := dd__law_right), c.def_ 8 (d := dd__law_bag), c.def_ 9 (d := dd_law), c.def_ 10 (d := dd_InvalidSigns___init__), c.def_ 11 (d := dd_InvalidRow___init__), c.def_ 12 (d := dd_InvalidNumber___init__), c.def_ 13 (d := dd_InvalidRules___init__), c.def_ 14 (d := dd_InvalidEdge___init__), c.def_ 15 (d := dd_InvalidPasses___init__), c.def_ 16 (d := dd_InvalidWords___init__), c.def_ 17 (d := dd_InvalidText___init__), c.def_ 18 (d := dd_InvalidGuards___init__), c.def_ 19 (d := dd_InvalidDeed___init__), c.def_ 20 (d := dd_InvalidLine___init__), c.def_ 21 (d := dd_NotAPass___init__), c.def_ 22 (d := dd_NotAChain___init__), c.def_ 23 (d := dd_NotBans___init__), c.def_ 24 (d := dd_OtherSigns___init__), c.def_ 25 (d := dd_Lossy___init__), c.def_ 26 (d := dd_Refused___init__), c.def_ 27 (d := dd_TooMany___init__), c.def_ 28 (d := dd_TooWide___init__)⟩
theorem facts {h : Heap} {f : Addr} (X : K.In h) (G : h.Ns mainGlobals mg) (hfa : mg ("law" : Str) = some (.ref f)) (c : hk.Says K) : ∃ fd : FuncData,
    (∀ (s : Shared) (v : Value), BindsTo s fd ⟨[v], []⟩ [("_law_cells", v)]) ∧ ∀ base : Heap, K.In base → base.Ns mainGlobals mg → (∀ p ∈ lamDefs K, LamX.TabB base mg (He.cT K p).1 (He.cT K p).2) → Nu.FnOk P WorldI.w K mg base (L2N.CX P WorldI.w) 5 f fd ["_law_cells"] (spM K [false] m_law) := by
  have a := ax_of X G c
  obtain ⟨fd, F⟩ := a.F_law
  have e := hfa.symm.trans a.g_law
  cases e
  have b := FunD.bindsA (ps := ["_law_cells"]) F fun _ _ _ _ _ _ us hl => match us, hl with | [_], _ => rfl
  exact ⟨fd, fun s v => b s [v] rfl, fun base _ _ tb => ok_law ⟨a, tb⟩ F⟩
end Law

namespace Law
open PySem Nu L2
variable [WorldI]
structure Bag where
  a : Int
  b : Int
  c : Int
def Bag.d (b : Bag) : D := .lst [.int b.a, .int b.b, .int b.c]
theorem draw_raw (a b c n : Int) (h0 : 0 < n) (h1 : n < 1000000) {Q : Mr → Prop} (h : ∀ (r a' b' c' : Int), 0 ≤ r → r < n → wpM (.ok (.int r) false [.lst [.int a', .int b', .int c']]) Q) : wpM (m__law_draw [.lst [.int a, .int b, .int c], .int n]) Q := by
  refine wp_body ?_
  by_cases ha : 0 < a
  · simp [sem__law_draw, L2.atI, L2.ixN, ha, gMod_int h0, gDiv_int ⟨h0, (by omega : n < 1073741824)⟩]
    exact h _ _ _ _ (Int.emod_nonneg _ (by omega)) (Int.emod_lt_of_pos _ h0)
  · have e1 : gMul (.int 104723) (.int (c + 1)) = some (.int (104723 * (c + 1)), false) := gMul_i (.inl (by decide))
    have e2 : gMul (.int 5) (.int (c + 1)) = some (.int (5 * (c + 1)), false) := gMul_i (.inl (by decide))
    have e3 : ∀ h : Int, gMul (.int h) (.int (h % 60013 + 40009)) = some (.int (h * (h % 60013 + 40009)), false) := fun h => gMul_i (.inr (by omega))
    have e4 : ∀ h : Int, gMod (.int h) (.int 60013) = some (.int (h % 60013), false) := fun h => gMod_int (by decide)
    have e5 : ∀ h : Int, gMod (.int h) (.int 2147483629) = some (.int (h % 2147483629), false) := fun h => gMod_int (by decide)
    have e6 : ∀ h : Int, gDiv (.int h) (.int 509) = some (.int (h / 509), false) := fun h => gDiv_int (by decide)
    simp [sem__law_draw, L2.atI, L2.ixN, ha, gMod_int h0, e1, e2, e3, e4, e5, e6]
    exact h _ _ _ _ (Int.emod_nonneg _ (by omega)) (Int.emod_lt_of_pos _ h0)
theorem draw_wp {b : Bag} {i : Int} {Q : Mr → Prop} (n : Nat) (hi : i = n) (h0 : 0 < n) (h1 : n < 1000) (h : ∀ (r : Nat) (b' : Bag), r < n → wpM (.ok (.int r) false [b'.d]) Q) : wpM (m__law_draw [b.d, .int i]) Q := by
  subst hi
  refine draw_raw b.a b.b b.c n (by omega) (by omega) fun r a' b' c' r0 r1 => ?_
  obtain ⟨k, rfl⟩ := Int.eq_ofNat_of_zero_le r0
  exact h k ⟨a', b', c'⟩ (by omega)
theorem oneL_wp {b : Bag} {ds : List D} {Q : Mr → Prop} (h0 : 0 < ds.length) (h1 : ds.length < 1000) (h : ∀ d (b' : Bag), d ∈ ds → wpM (.ok d false [b'.d]) Q) : wpM (m__law_one [b.d, .lst ds]) Q := by
  refine wp_body ?_
  simp [sem__law_one]
  refine draw_wp ds.length rfl h0 (by omega) fun r b' hr => ?_
  have e : ds[r]? = some ds[r] := by simp [hr]
  simp [Bag.d, Nu.atI_nat, e]
  exact h _ _ (List.getElem_mem hr)
abbrev SIGNS : List Cp := lit "abcdefghijklmnopqrstuvwxyz0123456789"
def over (l z : List Cp) : Bool := z.all fun c => decide (c ∈ l)
structure Alph (l : List Cp) : Prop where
  l2 : 2 ≤ l.length
  l4 : l.length ≤ 4
  nd : l.Nodup
  al : ∀ c ∈ l, c ∈ SIGNS
def Part (l p : List Cp) : Prop := p.Nodup ∧ ∀ c ∈ p, c ∈ l
/-! ## forms of passes -/
abbrev Rule := List (List Cp) × Cp
structure Form where
  letters : List Cp
  rules : List Rule
  edge : Option Cp
  back : Nat
  ahead : Nat
def ruleD (r : Rule) : D := .tup [.tup (r.1.map D.str), .str [r.2]]
def edgeD : Option Cp → D
  | none => .non
  | some c => .str [c]
def Form.d (f : Form) : D := .tup [.str f.letters, .tup (f.rules.map ruleD), edgeD f.edge, .int f.back, .int f.ahead]
def Form.wide (f : Form) : Nat := f.back + 1 + f.ahead
structure RuleOk (l : List Cp) (n : Nat) (r : Rule) : Prop where
  len : r.1.length = n
  mr : r.2 ∈ l
  pt : ∀ p ∈ r.1, Part l p
structure Good (f : Form) : Prop where
  al : Alph f.letters
  rl : f.rules.length ≤ 12
  ru : ∀ r ∈ f.rules, RuleOk f.letters f.wide r
  ed : ∀ c, f.edge = some c → c ∈ f.letters
  bk : f.back ≤ 2
  ah : f.ahead ≤ 2
/-! ## the bag -/
theorem cutD_mem {α : Type} {xs : List α} {lo hi : Option Int} {d : α} (h : d ∈ cutD xs lo hi) : d ∈ xs := List.mem_of_mem_drop (List.mem_of_mem_take h)
theorem bag_wp {ns : List Int} {k : Nat} {Q : Mr → Prop} (h : ∀ b : Bag, wpM (.ok b.d true []) Q) : wpM (m__law_bag [.scr (ns.map D.int), .int k]) Q := by
  have m1 : ∀ x : Int, gMul (.int 90001) (.int x) = some (.int (90001 * x), false) := fun x => gMul_i (.inl (by decide))
  have m2 : ∀ x : Int, gMul (.int x) (.int 31337) = some (.int (x * 31337), false) := fun x => gMul_i (.inr (by decide))
  have m3 : ∀ x : Int, gMul (.int 7) (.int x) = some (.int (7 * x), false) := fun x => gMul_i (.inl (by decide))
  have m4 : ∀ x : Int, gMul (.int 48271) (.int x) = some (.int (48271 * x), false) := fun x => gMul_i (.inl (by decide))
  have p1 : gPow (.int 10) (.int 15) = some (.int 1000000000000000, false) := rfl
  refine wp_body ?_
  by_cases hk : k < ns.length
  · have hk' : (k : Int) < ns.length := by omega
    have e : (ns.map D.int)[k]? = some (.int ns[k]) := by simp [hk]
    simp [sem__law_bag, hk', Nu.atI_nat, e, m1, gSl]
    refine wp_forA (fun ρ => ∃ c s : Int, ρ = [some (.scr (ns.map D.int), .sh), some (.int k, .sh), some (.int c, .sh), some (.int s, .sh), none, none]) ⟨_, _, rfl⟩ ?_ ?_
    · rintro d hd ρ ⟨c, s, e⟩
      subst e
      obtain ⟨i, _, rfl⟩ := List.mem_map.mp (cutD_mem hd)
      simp [m2, m3]
      exact at_ ⟨_, _, rfl⟩
    · rintro ρ ⟨c, s, e⟩
      subst e
      by_cases h1 : c < 0
      · simp [h1, m4]
        exact h ⟨_, _, _⟩
      · by_cases h2 : 1000000000000000 ≤ c
        · simp [h1, p1, h2, m4]
          exact h ⟨_, _, _⟩
        · simp [h1, p1, h2, m4]
          exact h ⟨_, _, _⟩
  · have hk' : ¬ (k : Int) < ns.length := by omega
    simp [sem__law_bag, hk', m1, gSl]
    refine wp_forA (fun ρ => ∃ c s : Int, ρ = [some (.scr (ns.map D.int), .sh), some (.int k, .sh), some (.int c, .sh), some (.int s, .sh), none, none]) ⟨_, _, rfl⟩ ?_ ?_
    · rintro d hd ρ ⟨c, s, e⟩
      subst e
      obtain ⟨i, _, rfl⟩ := List.mem_map.mp (cutD_mem hd)
      simp [m2, m3]
      exact at_ ⟨_, _, rfl⟩
    · rintro ρ ⟨c, s, e⟩
      subst e
      by_cases h1 : c < 0
      · simp [h1, m4]
        exact h ⟨_, _, _⟩
      · by_cases h2 : 1000000000000000 ≤ c
        · simp [h1, p1, h2, m4]
          exact h ⟨_, _, _⟩
        · simp [h1, p1, h2, m4]
          exact h ⟨_, _, _⟩
theorem pd_true : ∀ {ds es : List D}, Pd (fun _ v => v = D.bl true) ds es → gAll [.lst es] = some (.bl true, false)
  | _, _, .nil => rfl
  | _, _, .cons (bs := bs) e r => by
    have := pd_true r
    subst e
    simp only [gAll] at this ⊢
    simp only [bools]
    cases hb : bools bs with
    | none => rw [hb] at this; cases this
    | some v => rw [hb] at this; simpa using this
theorem turns (n m : Nat) (h : 2 ≤ m) : ∃ k : Nat, (if (if (m : Int) < (n : Int) then (m : Int) else (n : Int)) > 2 then (if (m : Int) < (n : Int) then (m : Int) else (n : Int)) else 2) = (k : Int) ∧ k ≤ m := by
  by_cases h1 : (m : Int) < n
  · rw [if_pos h1]
    split
    · exact ⟨m, rfl, Nat.le_refl _⟩
    · exact ⟨2, rfl, h⟩
  · rw [if_neg h1]
    split
    · exact ⟨n, rfl, by omega⟩
    · exact ⟨2, rfl, h⟩
end Law
namespace Law
open PySem Nu L2
variable [WorldI]
def T18 : List D := [.int (10 ^ 39 + 7), .non, .str (lit "x"), .tup [.int 1, .str (lit "a")], .lst [.int 2], .emp, .bl true, .int (-5), .tup [.str (lit "ab"), .tup []], .str []]
def isS (o : Option (D × Bool)) : Bool := match o with
  | some (.str _, false) => true
  | _ => false
theorem isS_ok {o : Option (D × Bool)} (h : isS o = true) : ∃ s, o = some (.str s, false) := by
  unfold isS at h
  split at h
  · exact ⟨_, rfl⟩
  · cases h
theorem rep1 : (T18.all fun d => isS (gReprU [d])) = true := by decide +kernel
theorem rep2 : (T18.all fun d => T18.all fun e => isS (gReprU [.lst [d, e]])) = true := by decide +kernel
structure Th18 (d : D) : Prop where
  m : d ∈ T18
theorem Th18.rep {d : D} (h : Th18 d) : ∃ s, gReprU [d] = some (.str s, false) := isS_ok (List.all_eq_true.mp rep1 d h.m)
theorem Th18.rep2 {d e : D} (h : Th18 d) (h2 : Th18 e) : ∃ s, gReprU [.lst [d, e]] = some (.str s, false) := isS_ok (List.all_eq_true.mp (List.all_eq_true.mp Law.rep2 d h.m) e h2.m)
theorem is_0 {fs : List (Str × D)} : m__law_is [.err "InvalidSigns" fs, .int 0] = .ok (.bl true) false [] := by kernel_rfl
theorem is_1 {fs : List (Str × D)} : m__law_is [.err "InvalidRow" fs, .int 1] = .ok (.bl true) false [] := by kernel_rfl
theorem is_2 {fs : List (Str × D)} : m__law_is [.err "InvalidNumber" fs, .int 2] = .ok (.bl true) false [] := by kernel_rfl
theorem is_3 {fs : List (Str × D)} : m__law_is [.err "InvalidRules" fs, .int 3] = .ok (.bl true) false [] := by kernel_rfl
theorem is_4 {fs : List (Str × D)} : m__law_is [.err "InvalidEdge" fs, .int 4] = .ok (.bl true) false [] := by kernel_rfl
theorem is_5 {fs : List (Str × D)} : m__law_is [.err "InvalidPasses" fs, .int 5] = .ok (.bl true) false [] := by kernel_rfl
theorem is_6 {fs : List (Str × D)} : m__law_is [.err "InvalidWords" fs, .int 6] = .ok (.bl true) false [] := by kernel_rfl
theorem is_7 {fs : List (Str × D)} : m__law_is [.err "InvalidText" fs, .int 7] = .ok (.bl true) false [] := by kernel_rfl
theorem is_8 {fs : List (Str × D)} : m__law_is [.err "InvalidGuards" fs, .int 8] = .ok (.bl true) false [] := by kernel_rfl
theorem is_9 {fs : List (Str × D)} : m__law_is [.err "InvalidDeed" fs, .int 9] = .ok (.bl true) false [] := by kernel_rfl
theorem is_10 {fs : List (Str × D)} : m__law_is [.err "InvalidLine" fs, .int 10] = .ok (.bl true) false [] := by kernel_rfl
theorem is_11 {fs : List (Str × D)} : m__law_is [.err "NotAPass" fs, .int 11] = .ok (.bl true) false [] := by kernel_rfl
theorem is_12 {fs : List (Str × D)} : m__law_is [.err "NotAChain" fs, .int 12] = .ok (.bl true) false [] := by kernel_rfl
theorem is_13 {fs : List (Str × D)} : m__law_is [.err "NotBans" fs, .int 13] = .ok (.bl true) false [] := by kernel_rfl
def er (c f : Str) (d : D) : D := .err c [(f, d)]
def valsD (d : D) : List D := (["InvalidSigns", "InvalidRow", "InvalidNumber", "InvalidEdge", "InvalidText", "InvalidLine", "NotAPass", "NotAChain", "NotBans", "InvalidSigns", "InvalidRow", "InvalidNumber", "InvalidEdge", "InvalidText", "InvalidLine", "NotAPass", "NotAChain", "NotBans"] : List Str).map fun c => er c "value" d
def idxsD (d : D) : List D := (["InvalidRules", "InvalidPasses", "InvalidWords", "InvalidGuards", "InvalidDeed", "InvalidRules", "InvalidPasses", "InvalidWords", "InvalidGuards", "InvalidDeed"] : List Str).map fun c => er c "index" d
theorem values_ok (d : D) : m__law_values [d] = .ok (.lst (valsD d)) true [] := by kernel_rfl
theorem indexes_ok (d : D) : m__law_indexes [d] = .ok (.lst (idxsD d)) true [] := by kernel_rfl
end Law
namespace Law
open PySem Nu L2
variable [WorldI]
def isT (r : Mr) : Bool := match r with
  | .ok (.bl true) false [] => true
  | _ => false
theorem isT_ok {r : Mr} (h : isT r = true) : r = .ok (.bl true) false [] := by
  unfold isT at h
  split at h
  · rfl
  · cases h
theorem others_all : (T18.all fun d => T18.all fun e => isT (m__law_others_right [d, e])) = true := by decide +kernel
theorem others_ok {d e : D} (h : Th18 d) (h2 : Th18 e) : m__law_others_right [d, e] = .ok (.bl true) false [] := isT_ok (List.all_eq_true.mp (List.all_eq_true.mp others_all d h.m) e h2.m)
end Law
namespace Law
open PySem Nu L2
variable [WorldI]
def pl1 : List D := [D.int 0, D.int 1, D.int 2, D.int 4, D.int 7, D.int 10, D.int 11, D.int 12, D.int 13]
def pl2 : List D := [D.int 3, D.int 5, D.int 6, D.int 8, D.int 9]
theorem vals_at (d : D) : ∀ j, j < 18 → ∃ (c : Str) (i : Int), (valsD d)[j]? = some (.err c [("value", d)]) ∧ c ∈ cs_fe_value ∧ (pl1 ++ pl1)[j]? = some (.int i) ∧ m__law_is [.err c [("value", d)], .int i] = .ok (.bl true) false []
  | 0, _ => ⟨_, 0, rfl, by decide, rfl, is_0⟩
  | 1, _ => ⟨_, 1, rfl, by decide, rfl, is_1⟩
  | 2, _ => ⟨_, 2, rfl, by decide, rfl, is_2⟩
  | 3, _ => ⟨_, 4, rfl, by decide, rfl, is_4⟩
  | 4, _ => ⟨_, 7, rfl, by decide, rfl, is_7⟩
  | 5, _ => ⟨_, 10, rfl, by decide, rfl, is_10⟩
  | 6, _ => ⟨_, 11, rfl, by decide, rfl, is_11⟩
  | 7, _ => ⟨_, 12, rfl, by decide, rfl, is_12⟩
  | 8, _ => ⟨_, 13, rfl, by decide, rfl, is_13⟩
  | 9, _ => ⟨_, 0, rfl, by decide, rfl, is_0⟩
  | 10, _ => ⟨_, 1, rfl, by decide, rfl, is_1⟩
  | 11, _ => ⟨_, 2, rfl, by decide, rfl, is_2⟩
  | 12, _ => ⟨_, 4, rfl, by decide, rfl, is_4⟩
  | 13, _ => ⟨_, 7, rfl, by decide, rfl, is_7⟩
  | 14, _ => ⟨_, 10, rfl, by decide, rfl, is_10⟩
  | 15, _ => ⟨_, 11, rfl, by decide, rfl, is_11⟩
  | 16, _ => ⟨_, 12, rfl, by decide, rfl, is_12⟩
  | 17, _ => ⟨_, 13, rfl, by decide, rfl, is_13⟩
  | n + 18, h => absurd h (by omega)
theorem idxs_at (d : D) : ∀ j, j < 10 → ∃ (c : Str) (i : Int), (idxsD d)[j]? = some (.err c [("index", d)]) ∧ c ∈ cs_fe_index ∧ (pl2 ++ pl2)[j]? = some (.int i) ∧ m__law_is [.err c [("index", d)], .int i] = .ok (.bl true) false []
  | 0, _ => ⟨_, 3, rfl, by decide, rfl, is_3⟩
  | 1, _ => ⟨_, 5, rfl, by decide, rfl, is_5⟩
  | 2, _ => ⟨_, 6, rfl, by decide, rfl, is_6⟩
  | 3, _ => ⟨_, 8, rfl, by decide, rfl, is_8⟩
  | 4, _ => ⟨_, 9, rfl, by decide, rfl, is_9⟩
  | 5, _ => ⟨_, 3, rfl, by decide, rfl, is_3⟩
  | 6, _ => ⟨_, 5, rfl, by decide, rfl, is_5⟩
  | 7, _ => ⟨_, 6, rfl, by decide, rfl, is_6⟩
  | 8, _ => ⟨_, 8, rfl, by decide, rfl, is_8⟩
  | 9, _ => ⟨_, 9, rfl, by decide, rfl, is_9⟩
  | n + 10, h => absurd h (by omega)
theorem a1 : gAdd (.lst pl1) (.lst pl1) = some (.lst (pl1 ++ pl1), true) := by kernel_rfl
theorem a2 : gAdd (.lst pl2) (.lst pl2) = some (.lst (pl2 ++ pl2), true) := by kernel_rfl
theorem lk1 {f : Str} {d : D} : List.lookup f [(f, d)] = some d := by simp [List.lookup]
theorem pow39 : gPow (.int 10) (.int 39) = some (.int (10 ^ 39), false) := by kernel_rfl
theorem right_wp {b : Bag} {Q : Mr → Prop} (h : ∀ b' : Bag, wpM (.ok (.bl true) false [b'.d]) Q) : wpM (m__law_right [b.d]) Q := by
  refine wp_body ?_
  simp [sem__law_right, pow39]
  refine oneL_wp (by decide) (by decide) fun d b1 hd => ?_
  have td : Th18 d := ⟨by simpa [T18] using hd⟩
  simp
  refine oneL_wp (by decide) (by decide) fun e b2 he => ?_
  have te : Th18 e := ⟨by simpa [T18] using he⟩
  clear hd he
  simp [values_ok]
  obtain ⟨s, es⟩ := td.rep
  refine wp_for (fun _ ρ => ρ = [some (b2.d, Kd.pin), some (D.lst [D.int 1000000000000000000000000000000000000007, D.non, D.str (lit "x"), D.tup [D.int 1, D.str (lit "a")], D.lst [D.int 2], D.emp, D.bl true, D.int (-5), D.tup [D.str (lit "ab"), D.tup []], D.str []], Kd.sh),
        some (d, Kd.sh), some (e, Kd.sh), some (D.lst (valsD d), Kd.ow), some (D.lst pl1, Kd.ow), none]) _ 0 _ rfl ?_ ?_
  · rintro j hj ρ rfl
    simp at hj
    obtain ⟨c, i, e1, e2, e3, e4⟩ := vals_at d j hj
    simp at e2
    simp [Nu.atI_nat, e1, e2, e3, e4, es, lk1, a1]
    exact at_ rfl
  · rintro ρ rfl
    simp [indexes_ok]
    refine wp_for (fun _ ρ => ρ = [some (b2.d, Kd.pin), some (D.lst [D.int 1000000000000000000000000000000000000007, D.non, D.str (lit "x"), D.tup [D.int 1, D.str (lit "a")], D.lst [D.int 2], D.emp, D.bl true, D.int (-5), D.tup [D.str (lit "ab"), D.tup []], D.str []], Kd.sh),
        some (d, Kd.sh), some (e, Kd.sh), some (D.lst (idxsD d), Kd.ow), some (D.lst pl2, Kd.ow), none]) _ 0 _ rfl ?_ ?_
    · rintro j hj ρ rfl
      simp at hj
      obtain ⟨c, i, e1, e2, e3, e4⟩ := idxs_at d j hj
      simp at e2
      simp [Nu.atI_nat, e1, e2, e3, e4, es, lk1, a2]
      exact at_ rfl
    · rintro ρ rfl
      simp [others_ok td te]
      exact h _
theorem lim_ok : gReprU [.lst [.int 4, .int 2, .int 12, .int 12, .int 8, .int 256, .int 1000, .int 2000, .int 100]] = some (.str (lit "[4, 2, 12, 12, 8, 256, 1000, 2000, 100]"), false) := by kernel_rfl
theorem lim_add : gAdd (.lst [.int 4, .int 2, .int 12, .int 12, .int 8]) (.lst [.int 256, .int 1000, .int 2000, .int 100]) = some (.lst [.int 4, .int 2, .int 12, .int 12, .int 8, .int 256, .int 1000, .int 2000, .int 100], true) := by kernel_rfl
theorem law_pure (ns : List Int) (hn : ns.length ≤ 63) : m_law [.scr (ns.map D.int)] = .ok (.bl true) false [] := by
  obtain ⟨k, hk, hk5⟩ := turns ns.length 6 (by decide)
  have hk' : (if (if (6 : Int) < ns.length then (6 : Int) else ns.length) > 2 then (if (6 : Int) < ns.length then (6 : Int) else ns.length) else 2) = k := hk
  have hro : rOk (k : Int) = true := rOk_small (by omega) (by omega)
  simp only [gt_iff_lt] at hk'
  refine eqM (wp_body ?_)
  simp [sem_law, noTmp, toAv, hk', hro, lim_ok, lim_add]
  refine wp_lcA (fun ρ => ρ = [some (.scr (ns.map D.int), .sh), some (.lst [.int 4, .int 2, .int 12, .int 12, .int 8, .int 256, .int 1000, .int 2000, .int 100], .ow), none]) (fun _ v => v = D.bl true) rfl (by simp; rw [size16]; omega) ?_ ?_
  · rintro d hd ρ e
    subst e
    obtain ⟨j, _, rfl⟩ := List.mem_map.mp hd
    simp
    refine bag_wp fun b => ?_
    simp
    refine right_wp fun b' => ?_
    simp
    exact ak_ ⟨_, rfl, rfl, rfl⟩
  · rintro es ρ hp e
    subst e
    simp [pd_true hp]
    exact okM
end Law
open PySem PySem.W PySem.Calls PyProof.Rows in
theorem PySem.Challenge.cw_nearundone_k18_errors_and_limits_holds : PySem.Challenge.rw_nearundone_k18_errors_and_limits.Holds := by
  w_on; o_law
  refine HandSHeadRun.head_any (r := Law.Rw) (q := view Law.Rw.prog [46]) (H := Law.hk.hook) (ob := Law.ob) (M := 20000) (loose := Law.names) (d := HandSHeadRun.topDef Law.Rw.prog 46) (kwd := []) Law.ob_eq
    (by kernel_rfl) (fun s => by kernel_rfl) Law.run (by kernel_rfl) (by kernel_rfl) (by kernel_rfl) (by rfl) (by first | assumption | decide +kernel) (by decide +kernel) ⟨rfl, rfl, rfl, rfl, rfl, by decide +kernel⟩ ?hw ?hc
  case hw => w_witness2
  case hc =>
    refine Nu.walk_n (l := PySem.Challenge.rw_nearundone_k18_errors_and_limits) (n := 63) (k := 5) (x := "_law_cells") rfl (by decide) (by kernel_rfl) ⟨⟨rfl, by decide, by decide⟩, rfl⟩ (fun w => @Law.law_pure ⟨w⟩) ?_
    intro w mg fa h Y G hmg0
    obtain ⟨K, KX, c, tO⟩ := Y
    have e : (HandSHeadRun.topDef Law.Rw.prog 46).name = ("law" : PySem.Str) := by kernel_rfl
    rw [e] at hmg0
    letI : Nu.WorldI := ⟨w⟩
    obtain ⟨fd, hb, hF⟩ := Law.facts (P := PySem.Challenge.rw_nearundone_k18_errors_and_limits.prog) KX G hmg0 c
    exact ⟨K, fd, KX, tO, hb, hF⟩
