import PyProof.Rows.All
import Wide.All
import OpenK.AllK
import Wide.FinOn
import HandS.ForMost
import HandS.Evl
import HandS.HeadHook2
import HandS.ExcCtx
import HandS.HotCalls
import HandS.Defaults
import HandS.CallSlots
import HandS.Star
import HandS.Strs
import KE.GoesMore
import PyProof.EnumMake
import HandS.TupAny
import HandS.IsInst
import HandS.Style
import HandS.Deep
import HandS.Text
import HandS.Conv
import HandS.TupLe
import HandS.Codes
import HandS.HeadEnd
import HandS.TupMul
import HandS.OwnEq
import OpenK.KMeth
import OpenK.KOps
import HandS.NamedTupSort
import PyProof.InstEq
import PyProof.ReprRoads
import PyProof.ReprLen
import PyProof.ReprBulk
import HandS.Zip
import HandS.Flow
import KE.KStateDown
import HandS.Words
import HandS.Head0
import HandS.Head1
import HandS.Head2
import KE.DataCmp
import PySem.Challenge.RW_nearundone_k22_whole_rules_written_other
set_option Elab.async false
set_option linter.all false
set_option maxRecDepth 100000
set_option maxHeartbeats 0
namespace Nu
open PySem PySem.Spec PyProof.Rows L2
variable {K : PySem.W.Frag}
structure Hk where
  n : Nat
  fs : List (PySem.W.Frag → Bool)
  fn : List He.DefD
def Hk.obs (h : Hk) (K : PySem.W.Frag) : He.AlD := ((h.fs.all fun f => f K) && h.fn.all fun d => d.ok K, h.fn.map fun d => He.fnW K d.at_)
def Hk.val (h : Hk) : He.AlD := (true, h.fn.map He.DefD.val)
def Hk.Says (h : Hk) (K : PySem.W.Frag) : Prop := h.obs K = h.val
def Hk.obsG (h : Hk) (g : Addr → Option Obj) : He.AlD := h.obs (He.frG g (He.asD g h.n))
def Hk.hook (h : Hk) : PySem.W.Hook where
  α := He.AlD
  obs := fun s => h.obsG s.heap.get?
  val := fun _ => h.val
  says := fun _ hp => ∃ K : PySem.W.Frag, K.In hp ∧ h.Says K
  of := fun _ _ e => ⟨_, He.frG_in, e⟩
  keeps := fun _ _ _ ⟨K, hK, c⟩ k => ⟨K, PySem.W.Frag.In.keeps hK k, c⟩
theorem Hk.obsG_eq {h : Hk} {g : Addr → Option Obj} {s : Shared} (e : ∀ a, g a = s.heap.get? a) : h.obsG g = h.hook.obs s := by
  have e : g = s.heap.get? := funext e
  rw [e] <;> rfl
def fCall (x : Str) (K : PySem.W.Frag) : Bool := He.eqO (PySem.W.findIn K (.ref (He.ga K x)) "__call__") (some (some (.ref (He.ma K (He.ga K x) "__call__")))) && (PySem.W.isFn K (.ref (He.ma K (He.ga K x) "__call__")) && PySem.W.fnIn K (He.ma K (He.ga K x) "__call__"))
def bltTys : List String := ["NoneType", "bool", "int", "str", "tuple", "list"]
def fIsC (cs : List Str) (cn : Str) (K : PySem.W.Frag) : Bool :=
  (cs.all fun c => (He.Fa.cls c).ok K && (decide (PySem.W.findIn K (.ref (He.ga K c)) "__class__" = some (some (.builtin "object.__class__"))) && (decide (PySem.W.mroIn K (He.ga K c) (.type "object") = some true) && decide (PySem.W.kitOne K (.ref (He.ga K c)) (.ref (He.ga K cn)) = some (decide (c = cn))))))
  && (decide (PySem.W.specialIn K (.builtin "object.__class__") "__get__" = some (some (.builtin "getset_descriptor.__get__"))) && (decide (PySem.W.takesIn K (.builtin "object.__class__") = some true) && bltTys.all fun t => decide (PySem.W.kitOne K (.type t) (.ref (He.ga K cn)) = some false)))
def fEmp (f : Str × Option Str) (i : Nat) (K : PySem.W.Frag) : Bool := match K.lookup (He.dflAt f i K) with
  | some ⟨.type c, _, .seq its _, _⟩ => decide (c = "tuple") && its.toList.isEmpty
  | _ => false
def clsB : Stmt → List Stmt
  | .ClassDef (body := b) .. => b
  | _ => []
def fOpM (c mn : Str) (K : PySem.W.Frag) : Bool := decide (PySem.W.findIn K (.ref (He.ga K c)) mn = some (some (.ref (He.ma K (He.ga K c) mn)))) && (PySem.W.isFn K (.ref (He.ma K (He.ga K c) mn)) && PySem.W.selfFirst K (He.ga K c))
def fNe (c : Str) (K : PySem.W.Frag) : Bool := decide (PySem.W.findIn K (.ref (He.ga K c)) "__ne__" = some (some (.builtin "object.__ne__"))) && decide (PySem.W.mroIn K (He.ga K c) (.type "object") = some true)
def fTru (c : Str) (K : PySem.W.Frag) : Bool := decide (PySem.W.findIn K (.ref (He.ga K c)) "__bool__" = some none) && decide (PySem.W.findIn K (.ref (He.ga K c)) "__len__" = some none)
end Nu
namespace Law
open PySem PySem.Spec PyProof.Rows L2 Nu
abbrev cs_isi : List Str := ["Pass", "Chain"]
abbrev cs_ahead : List Str := ["Pass", "Chain"]
abbrev cs_back : List Str := ["Pass", "Chain"]
abbrev cs_edge : List Str := ["Pass"]
abbrev cs_form : List Str := ["Pass", "Chain"]
abbrev cs_passes : List Str := ["Chain"]
abbrev cs_reach : List Str := ["Chain"]
abbrev cs_rules : List Str := ["Pass"]
abbrev cs_signs : List Str := ["Pass", "Chain"]
abbrev cs_start : List Str := ["Chain"]
def top (i : Nat) : Stmt := PySem.Challenge.pw_nearundone_k22_whole_rules_written_other.main.body.getD i (.Pass ⟨0, 0, 0, 0⟩)
abbrev st__law_draw : Stmt := top 52
abbrev st__law_one : Stmt := top 53
abbrev st__law_signs : Stmt := top 54
abbrev st_are_unlike_signs : Stmt := top 25
abbrev st_is_alphabet : Stmt := top 26
abbrev st_check_signs : Stmt := top 27
abbrev st_is_pass_over : Stmt := top 44
abbrev st_check_passes : Stmt := top 45
abbrev st_Chain___init__ : Stmt := (clsB (top 46)).getD 0 (.Pass ⟨0, 0, 0, 0⟩)
abbrev st_is_pattern : Stmt := top 33
abbrev st_is_over : Stmt := top 28
abbrev st_is_sign : Stmt := top 32
abbrev st_is_rule : Stmt := top 34
abbrev st_check_rules : Stmt := top 35
abbrev st_is_integer : Stmt := top 16
abbrev st_is_number : Stmt := top 17
abbrev st_Pass___init__ : Stmt := (clsB (top 38)).getD 0 (.Pass ⟨0, 0, 0, 0⟩)
abbrev st__law_pass : Stmt := top 62
abbrev st__law_chain_of : Stmt := top 64
abbrev st__law_row : Stmt := top 55
abbrev st__law_part : Stmt := top 56
abbrev st__law_form : Stmt := top 57
abbrev st__law_parted : Stmt := top 65
abbrev st__law_otherwise : Stmt := top 66
abbrev st_Chain___eq__ : Stmt := (clsB (top 46)).getD 15 (.Pass ⟨0, 0, 0, 0⟩)
abbrev st__law_longer : Stmt := top 63
abbrev st__law_all : Stmt := top 67
abbrev st__law_give : Stmt := top 58
abbrev st__law_window : Stmt := top 59
abbrev st__law_out : Stmt := top 60
abbrev st_check_row : Stmt := top 29
abbrev st_lets_in : Stmt := top 36
abbrev st_Pass_told_for : Stmt := (clsB (top 38)).getD 3 (.Pass ⟨0, 0, 0, 0⟩)
abbrev st_Pass_along : Stmt := (clsB (top 38)).getD 4 (.Pass ⟨0, 0, 0, 0⟩)
abbrev st_filled_out : Stmt := top 37
abbrev st_Pass___call__ : Stmt := (clsB (top 38)).getD 7 (.Pass ⟨0, 0, 0, 0⟩)
abbrev st__law_round : Stmt := top 61
abbrev st_Chain___call__ : Stmt := (clsB (top 46)).getD 10 (.Pass ⟨0, 0, 0, 0⟩)
abbrev st_next_memory : Stmt := top 42
abbrev st_Chain_step : Stmt := (clsB (top 46)).getD 8 (.Pass ⟨0, 0, 0, 0⟩)
abbrev st_check_ring : Stmt := top 30
abbrev st_Pass_ring : Stmt := (clsB (top 38)).getD 5 (.Pass ⟨0, 0, 0, 0⟩)
abbrev st_Chain_ring : Stmt := (clsB (top 46)).getD 2 (.Pass ⟨0, 0, 0, 0⟩)
abbrev st__law_right : Stmt := top 68
abbrev st__law_bag : Stmt := top 51
abbrev st_law : Stmt := top 69
def dd__law_draw : He.DefD := ⟨("_law_draw", none), "_law_draw", "_law_draw", defArgs st__law_draw, defBody st__law_draw, defScope st__law_draw, [], []⟩
def dd__law_one : He.DefD := ⟨("_law_one", none), "_law_one", "_law_one", defArgs st__law_one, defBody st__law_one, defScope st__law_one, [], []⟩
def dd__law_signs : He.DefD := ⟨("_law_signs", none), "_law_signs", "_law_signs", defArgs st__law_signs, defBody st__law_signs, defScope st__law_signs, [], []⟩
def dd_are_unlike_signs : He.DefD := ⟨("are_unlike_signs", none), "are_unlike_signs", "are_unlike_signs", defArgs st_are_unlike_signs, defBody st_are_unlike_signs, defScope st_are_unlike_signs, [], []⟩
def dd_is_alphabet : He.DefD := ⟨("is_alphabet", none), "is_alphabet", "is_alphabet", defArgs st_is_alphabet, defBody st_is_alphabet, defScope st_is_alphabet, [], []⟩
def dd_check_signs : He.DefD := ⟨("check_signs", none), "check_signs", "check_signs", defArgs st_check_signs, defBody st_check_signs, defScope st_check_signs, [], []⟩
def dd_is_pass_over : He.DefD := ⟨("is_pass_over", none), "is_pass_over", "is_pass_over", defArgs st_is_pass_over, defBody st_is_pass_over, defScope st_is_pass_over, [], []⟩
def dd_check_passes : He.DefD := ⟨("check_passes", none), "check_passes", "check_passes", defArgs st_check_passes, defBody st_check_passes, defScope st_check_passes, [], []⟩
def dd_Chain___init__ : He.DefD := ⟨("Chain", some "__init__"), "__init__", "Chain.__init__", defArgs st_Chain___init__, defBody st_Chain___init__, defScope st_Chain___init__, [.adr (He.dflAt ("Chain", some "__init__") 0)], []⟩
def dd_is_pattern : He.DefD := ⟨("is_pattern", none), "is_pattern", "is_pattern", defArgs st_is_pattern, defBody st_is_pattern, defScope st_is_pattern, [], []⟩
def dd_is_over : He.DefD := ⟨("is_over", none), "is_over", "is_over", defArgs st_is_over, defBody st_is_over, defScope st_is_over, [], []⟩
def dd_is_sign : He.DefD := ⟨("is_sign", none), "is_sign", "is_sign", defArgs st_is_sign, defBody st_is_sign, defScope st_is_sign, [], []⟩
def dd_is_rule : He.DefD := ⟨("is_rule", none), "is_rule", "is_rule", defArgs st_is_rule, defBody st_is_rule, defScope st_is_rule, [], []⟩
def dd_check_rules : He.DefD := ⟨("check_rules", none), "check_rules", "check_rules", defArgs st_check_rules, defBody st_check_rules, defScope st_check_rules, [], []⟩
def dd_is_integer : He.DefD := ⟨("is_integer", none), "is_integer", "is_integer", defArgs st_is_integer, defBody st_is_integer, defScope st_is_integer, [], []⟩
def dd_is_number : He.DefD := ⟨("is_number", none), "is_number", "is_number", defArgs st_is_number, defBody st_is_number, defScope st_is_number, [.non], []⟩
def dd_Pass___init__ : He.DefD := ⟨("Pass", some "__init__"), "__init__", "Pass.__init__", defArgs st_Pass___init__, defBody st_Pass___init__, defScope st_Pass___init__, [.non], [("back", .int 1), ("ahead", .int 1)]⟩
def dd__law_pass : He.DefD := ⟨("_law_pass", none), "_law_pass", "_law_pass", defArgs st__law_pass, defBody st__law_pass, defScope st__law_pass, [], []⟩
def dd__law_chain_of : He.DefD := ⟨("_law_chain_of", none), "_law_chain_of", "_law_chain_of", defArgs st__law_chain_of, defBody st__law_chain_of, defScope st__law_chain_of, [], []⟩
def dd__law_row : He.DefD := ⟨("_law_row", none), "_law_row", "_law_row", defArgs st__law_row, defBody st__law_row, defScope st__law_row, [], []⟩
def dd__law_part : He.DefD := ⟨("_law_part", none), "_law_part", "_law_part", defArgs st__law_part, defBody st__law_part, defScope st__law_part, [], []⟩
def dd__law_form : He.DefD := ⟨("_law_form", none), "_law_form", "_law_form", defArgs st__law_form, defBody st__law_form, defScope st__law_form, [], []⟩
def dd__law_parted : He.DefD := ⟨("_law_parted", none), "_law_parted", "_law_parted", defArgs st__law_parted, defBody st__law_parted, defScope st__law_parted, [], []⟩
def dd__law_otherwise : He.DefD := ⟨("_law_otherwise", none), "_law_otherwise", "_law_otherwise", defArgs st__law_otherwise, defBody st__law_otherwise, defScope st__law_otherwise, [], []⟩
def dd_Chain___eq__ : He.DefD := ⟨("Chain", some "__eq__"), "__eq__", "Chain.__eq__", defArgs st_Chain___eq__, defBody st_Chain___eq__, defScope st_Chain___eq__, [], []⟩
def dd__law_longer : He.DefD := ⟨("_law_longer", none), "_law_longer", "_law_longer", defArgs st__law_longer, defBody st__law_longer, defScope st__law_longer, [], []⟩
def dd__law_all : He.DefD := ⟨("_law_all", none), "_law_all", "_law_all", defArgs st__law_all, defBody st__law_all, defScope st__law_all, [], []⟩
def dd__law_give : He.DefD := ⟨("_law_give", none), "_law_give", "_law_give", defArgs st__law_give, defBody st__law_give, defScope st__law_give, [], []⟩
def dd__law_window : He.DefD := ⟨("_law_window", none), "_law_window", "_law_window", defArgs st__law_window, defBody st__law_window, defScope st__law_window, [], []⟩
def dd__law_out : He.DefD := ⟨("_law_out", none), "_law_out", "_law_out", defArgs st__law_out, defBody st__law_out, defScope st__law_out, [], []⟩
def dd_check_row : He.DefD := ⟨("check_row", none), "check_row", "check_row", defArgs st_check_row, defBody st_check_row, defScope st_check_row, [], []⟩
def dd_lets_in : He.DefD := ⟨("lets_in", none), "lets_in", "lets_in", defArgs st_lets_in, defBody st_lets_in, defScope st_lets_in, [], []⟩
def dd_Pass_told_for : He.DefD := ⟨("Pass", some "told_for"), "told_for", "Pass.told_for", defArgs st_Pass_told_for, defBody st_Pass_told_for, defScope st_Pass_told_for, [], []⟩
def dd_Pass_along : He.DefD := ⟨("Pass", some "along"), "along", "Pass.along", defArgs st_Pass_along, defBody st_Pass_along, defScope st_Pass_along, [], []⟩
def dd_filled_out : He.DefD := ⟨("filled_out", none), "filled_out", "filled_out", defArgs st_filled_out, defBody st_filled_out, defScope st_filled_out, [], []⟩
def dd_Pass___call__ : He.DefD := ⟨("Pass", some "__call__"), "__call__", "Pass.__call__", defArgs st_Pass___call__, defBody st_Pass___call__, defScope st_Pass___call__, [], []⟩
def dd__law_round : He.DefD := ⟨("_law_round", none), "_law_round", "_law_round", defArgs st__law_round, defBody st__law_round, defScope st__law_round, [], []⟩
def dd_Chain___call__ : He.DefD := ⟨("Chain", some "__call__"), "__call__", "Chain.__call__", defArgs st_Chain___call__, defBody st_Chain___call__, defScope st_Chain___call__, [], []⟩
def dd_next_memory : He.DefD := ⟨("next_memory", none), "next_memory", "next_memory", defArgs st_next_memory, defBody st_next_memory, defScope st_next_memory, [], []⟩
def dd_Chain_step : He.DefD := ⟨("Chain", some "step"), "step", "Chain.step", defArgs st_Chain_step, defBody st_Chain_step, defScope st_Chain_step, [], []⟩
def dd_check_ring : He.DefD := ⟨("check_ring", none), "check_ring", "check_ring", defArgs st_check_ring, defBody st_check_ring, defScope st_check_ring, [], []⟩
def dd_Pass_ring : He.DefD := ⟨("Pass", some "ring"), "ring", "Pass.ring", defArgs st_Pass_ring, defBody st_Pass_ring, defScope st_Pass_ring, [], []⟩
def dd_Chain_ring : He.DefD := ⟨("Chain", some "ring"), "ring", "Chain.ring", defArgs st_Chain_ring, defBody st_Chain_ring, defScope st_Chain_ring, [], []⟩
def dd__law_right : He.DefD := ⟨("_law_right", none), "_law_right", "_law_right", defArgs st__law_right, defBody st__law_right, defScope st__law_right, [], []⟩
def dd__law_bag : He.DefD := ⟨("_law_bag", none), "_law_bag", "_law_bag", defArgs st__law_bag, defBody st__law_bag, defScope st__law_bag, [], []⟩
def dd_law : He.DefD := ⟨("law", none), "law", "law", defArgs st_law, defBody st_law, defScope st_law, [], []⟩
def hk : Hk := ⟨5, ([(fun K => (He.Fa.free "abs").ok K), (fun K => (He.Fa.free "all").ok K), (fun K => (He.Fa.free "bool").ok K), (fun K => (He.Fa.free "enumerate").ok K), (fun K => (He.Fa.free "int").ok K), (fun K => (He.Fa.free "isinstance").ok K), (fun K => (He.Fa.free "len").ok K), (fun K => (He.Fa.free "list").ok K), (fun K => (He.Fa.free "max").ok K), (fun K => (He.Fa.free "min").ok K), (fun K => (He.Fa.free "range").ok K), (fun K => (He.Fa.free "set").ok K), (fun K => (He.Fa.free "str").ok K), (fun K => (He.Fa.free "sum").ok K), (fun K => (He.Fa.free "tuple").ok K), (fun K => (He.Fa.int "MOST_PASSES" 12).ok K), (fun K => (He.Fa.int "MOST_REACH" 2).ok K), (fun K => (He.Fa.int "MOST_RULES" 12).ok K), (fun K => (He.Fa.int "MOST_SIGNS" 4).ok K), (fun K => (He.Fa.int "MOST_WIDE" 256).ok K), (fun K => (He.Fa.str "SIGNS" "abcdefghijklmnopqrstuvwxyz0123456789").ok K), (fun K => (He.Fa.glo "_law_draw").ok K), (fun K => (He.Fa.glo "_law_one").ok K), (fun K => (He.Fa.glo "_law_signs").ok K), (fun K => (He.Fa.glo "are_unlike_signs").ok K), (fun K => (He.Fa.glo "is_alphabet").ok K), (fun K => (He.Fa.glo "check_signs").ok K), (fun K => (He.Fa.glo "is_pass_over").ok K), (fun K => (He.Fa.glo "check_passes").ok K), (fun K => (He.Fa.glo "is_pattern").ok K)] : List (PySem.W.Frag → Bool)) ++ ([(fun K => (He.Fa.glo "is_over").ok K), (fun K => (He.Fa.glo "is_sign").ok K), (fun K => (He.Fa.glo "is_rule").ok K), (fun K => (He.Fa.glo "check_rules").ok K), (fun K => (He.Fa.glo "is_integer").ok K), (fun K => (He.Fa.glo "is_number").ok K), (fun K => (He.Fa.glo "_law_pass").ok K), (fun K => (He.Fa.glo "_law_chain_of").ok K), (fun K => (He.Fa.glo "_law_row").ok K), (fun K => (He.Fa.glo "_law_part").ok K), (fun K => (He.Fa.glo "_law_form").ok K), (fun K => (He.Fa.glo "_law_parted").ok K), (fun K => (He.Fa.glo "_law_otherwise").ok K), (fun K => (He.Fa.glo "_law_longer").ok K), (fun K => (He.Fa.glo "_law_all").ok K), (fun K => (He.Fa.glo "_law_give").ok K), (fun K => (He.Fa.glo "_law_window").ok K), (fun K => (He.Fa.glo "_law_out").ok K), (fun K => (He.Fa.glo "check_row").ok K), (fun K => (He.Fa.glo "lets_in").ok K), (fun K => (He.Fa.glo "filled_out").ok K), (fun K => (He.Fa.glo "_law_round").ok K), (fun K => (He.Fa.glo "next_memory").ok K), (fun K => (He.Fa.glo "check_ring").ok K), (fun K => (He.Fa.glo "_law_right").ok K), (fun K => (He.Fa.glo "_law_bag").ok K), (fun K => (He.Fa.glo "law").ok K), (fun K => (He.Fa.glo "Pass").ok K), (fun K => (He.Fa.cls "Pass").ok K), (fun K => (He.Fa.mkr "Pass").ok K)] : List (PySem.W.Frag → Bool)) ++ ([(fun K => (He.Fa.glo "Chain").ok K), (fun K => (He.Fa.cls "Chain").ok K), (fun K => (He.Fa.mkr "Chain").ok K), (fun K => cs_ahead.all fun c => (He.Fa.cls c).ok K && (He.Fa.noat c "ahead").ok K), (fun K => cs_back.all fun c => (He.Fa.cls c).ok K && (He.Fa.noat c "back").ok K), (fun K => cs_edge.all fun c => (He.Fa.cls c).ok K && (He.Fa.noat c "edge").ok K), (fun K => cs_form.all fun c => (He.Fa.cls c).ok K && (He.Fa.noat c "form").ok K), (fun K => cs_passes.all fun c => (He.Fa.cls c).ok K && (He.Fa.noat c "passes").ok K), (fun K => cs_reach.all fun c => (He.Fa.cls c).ok K && (He.Fa.noat c "reach").ok K), (fun K => cs_rules.all fun c => (He.Fa.cls c).ok K && (He.Fa.noat c "rules").ok K), (fun K => cs_signs.all fun c => (He.Fa.cls c).ok K && (He.Fa.noat c "signs").ok K), (fun K => cs_start.all fun c => (He.Fa.cls c).ok K && (He.Fa.noat c "start").ok K), (fun K => (He.Fa.meth "Chain" "__eq__").ok K), (fun K => (He.Fa.meth "Pass" "told_for").ok K), (fun K => (He.Fa.meth "Pass" "along").ok K), (fCall "Pass"), (fCall "Chain"), (fun K => (He.Fa.meth "Chain" "step").ok K), (fun K => (He.Fa.meth "Pass" "ring").ok K), (fun K => (He.Fa.meth "Chain" "ring").ok K), (fEmp ("Chain", some "__init__") 0), (fOpM "Chain" "__eq__"), (fNe "Chain"), (fIsC cs_isi "Chain"), (fIsC cs_isi "Pass")] : List (PySem.W.Frag → Bool)), ([dd__law_draw, dd__law_one, dd__law_signs, dd_are_unlike_signs, dd_is_alphabet, dd_check_signs, dd_is_pass_over, dd_check_passes, dd_Chain___init__, dd_is_pattern, dd_is_over, dd_is_sign, dd_is_rule, dd_check_rules, dd_is_integer, dd_is_number, dd_Pass___init__, dd__law_pass, dd__law_chain_of, dd__law_row, dd__law_part, dd__law_form, dd__law_parted, dd__law_otherwise, dd_Chain___eq__, dd__law_longer, dd__law_all, dd__law_give, dd__law_window, dd__law_out] : List He.DefD) ++ ([dd_check_row, dd_lets_in, dd_Pass_told_for, dd_Pass_along, dd_filled_out, dd_Pass___call__, dd__law_round, dd_Chain___call__, dd_next_memory, dd_Chain_step, dd_check_ring, dd_Pass_ring, dd_Chain_ring, dd__law_right, dd__law_bag, dd_law] : List He.DefD)⟩
abbrev Rw : PySem.W.OpenRow := PySem.W.OpenLaw.row PySem.Challenge.rw_nearundone_k22_whole_rules_written_other
def names : List PySem.Str := (["_wall", "ShapeError", "QuestionError", "SizeError", "InvalidSigns", "InvalidRow", "InvalidNumber", "InvalidRules", "InvalidEdge", "InvalidPasses", "InvalidText", "NotAChain", "OtherSigns", "TooWide", "is_integer", "is_number", "MOST_SIGNS", "MOST_REACH", "MOST_RULES", "MOST_PASSES", "MOST_WIDE", "SIGNS", "are_unlike_signs", "is_alphabet", "check_signs", "is_over", "check_row", "check_ring", "is_sign", "is_pattern"] : List PySem.Str) ++ (["is_rule", "check_rules", "lets_in", "filled_out", "Pass", "rule_in", "numbers_in", "pass_in", "next_memory", "is_pass_over", "check_passes", "Chain", "check_chain", "check_other", "check_index", "_law_bag", "_law_draw", "_law_one", "_law_signs", "_law_row", "_law_part", "_law_form", "_law_give", "_law_window", "_law_out", "_law_round", "_law_pass", "_law_longer", "_law_chain_of", "_law_parted"] : List PySem.Str) ++ (["_law_otherwise", "_law_all", "_law_right"] : List PySem.Str)
def ob (s : PySem.W.SharedT) : He.AlD := hk.obsG (HandSHeadRun.getT s)
theorem ob_eq (s : PySem.W.SharedT) : ob s = hk.hook.obs s.abs := Hk.obsG_eq (HandSHeadRun.getT_eq s)
theorem run (w : World) : HandSHeadRun.RunEq Rw (PySem.W.view Rw.prog [69]) hk.hook ob 20000 names w := by
  intro os
  kernel_rfl
end Law
namespace Nu
open PySem PySem.Spec PyProof.Rows L2

/-! ## data -/
abbrev Cp := Fin 1114112
def toStr (x : List Cp) : Str := ⟨(x.map (·.val)).toArray⟩
theorem toStr_inj {x y : List Cp} (h : toStr x = toStr y) : x = y := by
  unfold toStr at h
  have h1 : (x.map (·.val)).toArray = (y.map (·.val)).toArray := congrArg Str.cps h
  have h2 : x.map (·.val) = y.map (·.val) := by simpa using congrArg Array.toList h1
  exact (List.map_inj_right (fun a b e => Fin.ext e)).mp h2

inductive D where
  | non | bl (b : Bool) | int (i : Int) | str (x : List Cp) | ty (n : String)
  | tup (ds : List D) | lst (ds : List D) | obj (c : Str) (fs : List (Str × D)) | scr (ds : List D)

inductive Kd where | sh | ow | pin
  deriving DecidableEq
abbrev Rho := List (Option (D × Kd))

mutual
/-- v stands for the data d, by the frozen part F -/
inductive Rel (K : PySem.W.Frag) (F : Hp) : V → D → Prop
  | non : Rel K F .non .non
  | bl (b : Bool) : Rel K F (.bl b) (.bl b)
  | int (i : Int) : Rel K F (.int i) (.int i)
  | str (x : List Cp) : Rel K F (.str (toStr x)) (.str x)
  | ty (n : String) : Rel K F (.ty n) (.ty n)
  | tup {a : Addr} {vs : List V} {ds : List D} : SqT K F a vs → Rels K F vs ds → Rel K F (.ref a) (.tup ds)
  | lst {a : Addr} {vs : List V} {ds : List D} : F a = some (.lst vs) → Rels K F vs ds → Rel K F (.ref a) (.lst ds)
  | scr {a : Addr} {vs : List V} {ds : List D} : SqL K F a vs → Rels K F vs ds → Rel K F (.ref a) (.scr ds)
  | obj {a dx : Addr} {c : Str} {vs : List (Str × V)} {fs : List (Str × D)} : F a = some (.ins (He.ga K c) dx vs) → RelF K F vs fs → Rel K F (.ref a) (.obj c fs)
inductive Rels (K : PySem.W.Frag) (F : Hp) : List V → List D → Prop
  | nil : Rels K F [] []
  | cons {v : V} {vs : List V} {d : D} {ds : List D} : Rel K F v d → Rels K F vs ds → Rels K F (v :: vs) (d :: ds)
inductive RelF (K : PySem.W.Frag) (F : Hp) : List (Str × V) → List (Str × D) → Prop
  | nil : RelF K F [] []
  | cons {n : Str} {v : V} {vs : List (Str × V)} {d : D} {ds : List (Str × D)} : Rel K F v d → RelF K F vs ds → RelF K F ((n, v) :: vs) ((n, d) :: ds)
end

abbrev St := L2.St
abbrev Le (F F' : Hp) : Prop := Evl.Ex F F'
section
variable {K : PySem.W.Frag} {F F' H H' Z : Hp}
mutual
theorem Rel.mono (e : Le F F') : ∀ {v : V} {d : D}, Rel K F v d → Rel K F' v d
  | _, _, .non => .non
  | _, _, .bl b => .bl b
  | _, _, .int i => .int i
  | _, _, .str x => .str x
  | _, _, .ty n => .ty n
  | _, _, .tup h r => .tup (Evl.ex_t e h) (Rels.mono e r)
  | _, _, .lst h r => .lst (e _ _ h) (Rels.mono e r)
  | _, _, .scr h r => .scr (Evl.ex_l e h) (Rels.mono e r)
  | _, _, .obj h r => .obj (e _ _ h) (RelF.mono e r)
theorem Rels.mono (e : Le F F') : ∀ {v : List V} {d : List D}, Rels K F v d → Rels K F' v d
  | _, _, .nil => .nil
  | _, _, .cons h r => .cons (Rel.mono e h) (Rels.mono e r)
theorem RelF.mono (e : Le F F') : ∀ {v : List (Str × V)} {d : List (Str × D)}, RelF K F v d → RelF K F' v d
  | _, _, .nil => .nil
  | _, _, .cons h r => .cons (Rel.mono e h) (RelF.mono e r)
end
theorem Rels.length : ∀ {vs : List V} {ds : List D}, Rels K F vs ds → vs.length = ds.length
  | _, _, .nil => rfl
  | _, _, .cons _ r => by rw [List.length_cons, List.length_cons, Rels.length r]
theorem Rels.get : ∀ {vs : List V} {ds : List D} {i : Nat} {d : D}, Rels K F vs ds → ds[i]? = some d → ∃ v, vs[i]? = some v ∧ Rel K F v d
  | _, _, _, _, .nil, e => by simp at e
  | _, _, 0, _, .cons r _, e => by simp at e; subst e; exact ⟨_, rfl, r⟩
  | _, _, i + 1, d, .cons _ t, e => by
    obtain ⟨u, h1, h2⟩ := Rels.get (i := i) (d := d) t (by simpa using e)
    exact ⟨u, by simpa using h1, h2⟩
theorem Rels.append : ∀ {vs ws : List V} {ds es : List D}, Rels K F vs ds → Rels K F ws es → Rels K F (vs ++ ws) (ds ++ es)
  | _, _, _, _, .nil, s => s
  | _, _, _, _, .cons r t, s => .cons r (Rels.append t s)
theorem Rels.take : ∀ {vs : List V} {ds : List D} (n : Nat), Rels K F vs ds → Rels K F (vs.take n) (ds.take n)
  | _, _, 0, _ => .nil
  | _, _, _ + 1, .nil => .nil
  | _, _, n + 1, .cons r t => .cons r (Rels.take n t)
theorem Rels.drop : ∀ {vs : List V} {ds : List D} (n : Nat), Rels K F vs ds → Rels K F (vs.drop n) (ds.drop n)
  | _, _, 0, r => r
  | _, _, _ + 1, .nil => .nil
  | _, _, n + 1, .cons _ t => Rels.drop n t
theorem Rels.set {v : V} {d : D} (r : Rel K F v d) : ∀ {vs : List V} {ds : List D} (i : Nat), Rels K F vs ds → Rels K F (vs.set i v) (ds.set i d)
  | _, _, _, .nil => .nil
  | _, _, 0, .cons _ t => .cons r t
  | _, _, i + 1, .cons q t => .cons q (Rels.set r i t)
theorem Rels.reverse : ∀ {vs : List V} {ds : List D}, Rels K F vs ds → Rels K F vs.reverse ds.reverse
  | _, _, .nil => .nil
  | _, _, .cons r t => by
    rw [List.reverse_cons, List.reverse_cons]
    exact (Rels.reverse t).append (.cons r .nil)
theorem Rels.replicate {v : V} {d : D} (r : Rel K F v d) : ∀ n : Nat, Rels K F (List.replicate n v) (List.replicate n d)
  | 0 => .nil
  | n + 1 => .cons r (Rels.replicate r n)
theorem Rels.flatten : ∀ {vs : List (List V)} {ds : List (List D)}, Paired (Rels K F) vs ds → Rels K F vs.flatten ds.flatten
  | _, _, .nil => .nil
  | _, _, .cons r t => by
    rw [List.flatten_cons, List.flatten_cons]
    exact r.append (Rels.flatten t)
theorem RelF.lookup {f : Str} : ∀ {vs : List (Str × V)} {fs : List (Str × D)}, RelF K F vs fs → (∀ d, fs.lookup f = some d → ∃ v, vs.lookup f = some v ∧ Rel K F v d) ∧ (fs.lookup f = none → vs.lookup f = none)
  | _, _, .nil => ⟨fun _ e => by simp at e, fun _ => rfl⟩
  | _, _, .cons (n := n) (v := v) (vs := vs) (d := d) (ds := ds) h r => by
    obtain ⟨h1, h2⟩ := RelF.lookup (f := f) r
    rw [List.lookup_cons, List.lookup_cons]
    cases hb : f == n with
    | true => exact ⟨fun d' e => by cases e; exact ⟨v, rfl, h⟩, fun e => by cases e⟩
    | false => exact ⟨fun d' e => h1 d' e, fun e => h2 e⟩
theorem RelF.length : ∀ {vs : List (Str × V)} {fs : List (Str × D)}, RelF K F vs fs → vs.length = fs.length
  | _, _, .nil => rfl
  | _, _, .cons _ r => by rw [List.length_cons, List.length_cons, RelF.length r]
def putD (f : Str) (v : D) : List (Str × D) → List (Str × D)
  | [] => [(f, v)]
  | (g, u) :: r => if g = f then (g, v) :: r else (g, u) :: putD f v r
end
end Nu
namespace Nu
open PySem PySem.Spec PyProof.Rows L2

/-! ## owned objects, states -/
/-- what stands at an owned address -/
def OwnO (K : PySem.W.Frag) (F H : Hp) (a : Addr) : D → Prop
  | .lst ds => ∃ vs, H a = some (.lst vs) ∧ Rels K F vs ds
  | .obj c fs => ∃ dx vs, H a = some (.ins (He.ga K c) dx vs) ∧ RelF K F vs fs
  | _ => False
structure Own (K : PySem.W.Frag) (Z F H : Hp) (a : Addr) (d : D) : Prop where
  nf : F a = none
  nz : Z a = none
  at_ : OwnO K F H a d
def SlR (K : PySem.W.Frag) (Z F H : Hp) (v : V) (d : D) : Kd → Prop
  | .sh => Rel K F v d
  | _ => ∃ a, v = .ref a ∧ Own K Z F H a d
structure SR (K : PySem.W.Frag) (P : Nat → Addr) (Z F : Hp) (σ : St) (ρ : Rho) (H : Hp) : Prop where
  fh : Le F H
  zh : Le Z H
  zf : ∀ a o, Z a = some o → F a = none
  len : σ.length = ρ.length
  sl : ∀ (i : Nat) (d : D) (k : Kd), ρ[i]? = some (some (d, k)) → ∃ v, σ[i]? = some (some v) ∧ SlR K Z F H v d k
  ap : ∀ (i j : Nat) (d e : D) (k l : Kd) (a : Addr), i ≠ j → ρ[i]? = some (some (d, k)) → ρ[j]? = some (some (e, l)) → k ≠ .sh → l ≠ .sh → σ[i]? = some (some (.ref a)) → σ[j]? = some (some (.ref a)) → False
  pn : ∀ (i : Nat) (d : D), ρ[i]? = some (some (d, .pin)) → σ[i]? = some (some (.ref (P i)))
/-- a is no owned slot's address -/
def Free (σ : St) (ρ : Rho) (a : Addr) : Prop := ∀ (i : Nat) (d : D) (k : Kd), ρ[i]? = some (some (d, k)) → k ≠ .sh → σ[i]? ≠ some (some (.ref a))
/-- a value that an expression gives: shared, or fresh -/
def RvR (K : PySem.W.Frag) (Z F H : Hp) (σ : St) (ρ : Rho) (v : V) (d : D) : Bool → Prop
  | false => Rel K F v d
  | true => ∃ a, v = .ref a ∧ Own K Z F H a d ∧ Free σ ρ a

section
variable {K : PySem.W.Frag} {P : Nat → Addr} {F F' H H' Z Z' : Hp} {σ : St} {ρ ρ' : Rho} {v : V} {d : D} {a : Addr} {o : HO} {i : Nat}
theorem le_upd (h : F a = none) : Le F (upd F a o) := Evl.Ex.new h
theorem Own.obj_at (w : Own K Z F H a d) : ∃ o, H a = some o := by
  have h := w.at_
  cases d with
  | lst ds => obtain ⟨vs, e, _⟩ := h; exact ⟨_, e⟩
  | obj c fs => obtain ⟨dx, vs, e, _⟩ := h; exact ⟨_, e⟩
  | _ => exact h.elim
theorem OwnO.rel (h : OwnO K F H a d) (hf : ∀ o, H a = some o → F a = some o) : Rel K F (.ref a) d := by
  cases d with
  | lst ds => obtain ⟨vs, e, r⟩ := h; exact .lst (hf _ e) r
  | obj c fs => obtain ⟨dx, vs, e, r⟩ := h; exact .obj (hf _ e) r
  | _ => exact h.elim
theorem OwnO.move (h : OwnO K F H a d) (e : Le F F') (k : ∀ o, H a = some o → H' a = some o) : OwnO K F' H' a d := by
  cases d with
  | lst ds => obtain ⟨vs, x, r⟩ := h; exact ⟨vs, k _ x, r.mono e⟩
  | obj c fs => obtain ⟨dx, vs, x, r⟩ := h; exact ⟨dx, vs, k _ x, r.mono e⟩
  | _ => exact h.elim
theorem SlR.move {k : Kd} (h : SlR K Z F H v d k) (e : Le F F') (q : ∀ a o, v = .ref a → F a = none → Z a = none → H a = some o → H' a = some o ∧ F' a = none) : SlR K Z F' H' v d k := by
  cases k with
  | sh => exact Rel.mono e h
  | ow =>
    obtain ⟨a, rfl, w⟩ := h
    obtain ⟨o, ho⟩ := w.obj_at
    exact ⟨a, rfl, (q a o rfl w.nf w.nz ho).2, w.nz, w.at_.move e fun o' h' => (q a o' rfl w.nf w.nz h').1⟩
  | pin =>
    obtain ⟨a, rfl, w⟩ := h
    obtain ⟨o, ho⟩ := w.obj_at
    exact ⟨a, rfl, (q a o rfl w.nf w.nz ho).2, w.nz, w.at_.move e fun o' h' => (q a o' rfl w.nf w.nz h').1⟩

/-- the heap has grown: all that stood stands; what is newly frozen is new -/
structure Grow (F H F' H' : Hp) : Prop where
  hh : Le H H'
  ff : Le F F'
  fh : Le F' H'
  new : ∀ a o, F' a = some o → F a = some o ∨ H a = none
theorem Grow.refl (h : Le F H) : Grow F H F H := ⟨Evl.Ex.refl H, Evl.Ex.refl F, h, fun _ _ e => .inl e⟩
theorem Grow.trans {F2 H2 : Hp} (g : Grow F H F' H') (k : Grow F' H' F2 H2) : Grow F H F2 H2 :=
  ⟨g.hh.trans k.hh, g.ff.trans k.ff, k.fh, fun a o e => by
    rcases k.new a o e with q | q
    · exact g.new a o q
    · exact .inr (Evl.fresh_back g.hh q)⟩
/-- a new object, frozen at once -/
theorem Grow.frz (h : Le F H) (n : H a = none) : Grow F H (upd F a o) (upd H a o) := by
  have nf : F a = none := Evl.fresh_back h n
  refine ⟨le_upd n, le_upd nf, fun b u e => ?_, fun b u e => ?_⟩
  · by_cases hb : b = a
    · subst hb; rw [upd_same] at e ⊢; exact e
    · rw [upd_ne hb] at e ⊢; exact h b u e
  · by_cases hb : b = a
    · subst hb; exact .inr n
    · rw [upd_ne hb] at e; exact .inl e
/-- a new object, not frozen -/
theorem Grow.fresh (h : Le F H) (n : H a = none) : Grow F H F (upd H a o) := ⟨le_upd n, Evl.Ex.refl F, fun b u e => by
  have hb : b ≠ a := ne_of_none (h b u e) n
  rw [upd_ne hb]; exact h b u e, fun _ _ e => .inl e⟩
theorem SR.grow (S : SR K P Z F σ ρ H) (g : Grow F H F' H') : SR K P Z F' σ ρ H' where
  fh := g.fh
  zh := S.zh.trans g.hh
  zf := fun a o e => by
    cases q : F' a with
    | none => rfl
    | some u =>
      rcases g.new a u q with z | z
      · rw [S.zf a o e] at z; cases z
      · rw [S.zh a o e] at z; cases z
  len := S.len
  sl := fun i d k e => by
    obtain ⟨v, hv, w⟩ := S.sl i d k e
    refine ⟨v, hv, w.move g.ff fun a o _ nf nz ho => ⟨g.hh a o ho, ?_⟩⟩
    cases q : F' a with
    | none => rfl
    | some u =>
      rcases g.new a u q with z | z
      · rw [nf] at z; cases z
      · rw [ho] at z; cases z
  ap := S.ap
  pn := S.pn
/-- less is kept from others -/
theorem SR.less (S : SR K P Z F σ ρ H) (h : Le Z' Z) : SR K P Z' F σ ρ H where
  fh := S.fh
  zh := h.trans S.zh
  zf := fun a o e => S.zf a o (h a o e)
  len := S.len
  sl := fun i d k e => by
    obtain ⟨v, hv, w⟩ := S.sl i d k e
    refine ⟨v, hv, ?_⟩
    cases k with
    | sh => exact w
    | ow => obtain ⟨a, r, w⟩ := w; exact ⟨a, r, w.nf, Evl.fresh_back h w.nz, w.at_⟩
    | pin => obtain ⟨a, r, w⟩ := w; exact ⟨a, r, w.nf, Evl.fresh_back h w.nz, w.at_⟩
  ap := S.ap
  pn := S.pn
/-- a fresh object is kept from others -/
theorem SR.more (S : SR K P Z F σ ρ H) (h : H a = some o) (nf : F a = none) (fr : Free σ ρ a) : SR K P (upd Z a o) F σ ρ H where
  fh := S.fh
  zh := fun b u e => by
    by_cases hb : b = a
    · subst hb; rw [upd_same] at e; rw [h]; exact e
    · rw [upd_ne hb] at e; exact S.zh b u e
  zf := fun b u e => by
    by_cases hb : b = a
    · subst hb; exact nf
    · rw [upd_ne hb] at e; exact S.zf b u e
  len := S.len
  sl := fun i d k e => by
    obtain ⟨v, hv, w⟩ := S.sl i d k e
    refine ⟨v, hv, ?_⟩
    cases k with
    | sh => exact w
    | ow =>
      obtain ⟨b, r, w⟩ := w
      subst r
      have hb : b ≠ a := fun z => by subst z; exact fr i d _ e (by decide) hv
      exact ⟨b, rfl, w.nf, by rw [upd_ne hb]; exact w.nz, w.at_⟩
    | pin =>
      obtain ⟨b, r, w⟩ := w
      subst r
      have hb : b ≠ a := fun z => by subst z; exact fr i d _ e (by decide) hv
      exact ⟨b, rfl, w.nf, by rw [upd_ne hb]; exact w.nz, w.at_⟩
  ap := S.ap
  pn := S.pn
/-- a fresh object is frozen -/
theorem SR.freeze (S : SR K P Z F σ ρ H) (h : H a = some o) (nf : F a = none) (nz : Z a = none) (fr : Free σ ρ a) : SR K P Z (upd F a o) σ ρ H where
  fh := fun b u e => by
    by_cases hb : b = a
    · subst hb; rw [upd_same] at e; rw [h]; exact e
    · rw [upd_ne hb] at e; exact S.fh b u e
  zh := S.zh
  zf := fun b u e => by
    have hb : b ≠ a := ne_of_none e nz
    rw [upd_ne hb]; exact S.zf b u e
  len := S.len
  sl := fun i d k e => by
    obtain ⟨v, hv, w⟩ := S.sl i d k e
    refine ⟨v, hv, ?_⟩
    cases k with
    | sh => exact Rel.mono (le_upd nf) w
    | ow =>
      obtain ⟨b, r, w⟩ := w
      subst r
      have hb : b ≠ a := fun z => by subst z; exact fr i d _ e (by decide) hv
      exact ⟨b, rfl, by rw [upd_ne hb]; exact w.nf, w.nz, w.at_.move (le_upd nf) fun _ q => q⟩
    | pin =>
      obtain ⟨b, r, w⟩ := w
      subst r
      have hb : b ≠ a := fun z => by subst z; exact fr i d _ e (by decide) hv
      exact ⟨b, rfl, by rw [upd_ne hb]; exact w.nf, w.nz, w.at_.move (le_upd nf) fun _ q => q⟩
  ap := S.ap
  pn := S.pn
theorem RvR.rel (h : RvR K Z F H σ ρ v d false) : Rel K F v d := h
/-- any value may be shared -/
theorem RvR.share {fr : Bool} (S : SR K P Z F σ ρ H) (h : RvR K Z F H σ ρ v d fr) : ∃ F', Le F F' ∧ SR K P Z F' σ ρ H ∧ Rel K F' v d := by
  cases fr with
  | false => exact ⟨F, Evl.Ex.refl F, S, h⟩
  | true =>
    obtain ⟨a, rfl, w, q⟩ := h
    obtain ⟨o, ho⟩ := w.obj_at
    refine ⟨upd F a o, le_upd w.nf, S.freeze ho w.nf w.nz q, (w.at_.move (le_upd w.nf) fun _ z => z).rel fun o' e => ?_⟩
    rw [ho] at e; cases e; exact upd_same

/-! ## slots -/
def isPin : Option (Option (D × Kd)) → Bool
  | some (some (_, .pin)) => true
  | _ => false
theorem Free.set {i : Nat} {v : V} {d : D} {k : Kd} (fr : Free σ ρ a) (h : v ≠ .ref a ∨ k = .sh) : Free (σ.set i (some v)) (ρ.set i (some (d, k))) a := fun j e l hj hl q => by
  by_cases hij : i = j
  · subst hij
    rw [List.getElem?_set] at hj q
    simp only [if_true] at hj q
    split at hj
    · cases hj
      split at q
      · cases q
        rcases h with h | h
        · exact h rfl
        · exact hl h
      · cases q
    · cases hj
  · rw [List.getElem?_set_ne hij] at hj q
    exact fr j e l hj hl q
/-- a name is given a value -/
theorem SR.store {b : Bool} {i : Nat} (S : SR K P Z F σ ρ H) (h : RvR K Z F H σ ρ v d b) (np : isPin ρ[i]? = false) : SR K P Z F (σ.set i (some v)) (ρ.set i (some (d, if b then .ow else .sh))) H where
  fh := S.fh
  zh := S.zh
  zf := S.zf
  len := by rw [List.length_set, List.length_set]; exact S.len
  sl := fun j e k hj => by
    by_cases hij : i = j
    · subst hij
      rw [List.getElem?_set] at hj ⊢
      simp only [if_true] at hj ⊢
      split at hj
      · rename_i hl
        cases hj
        rw [if_pos (by rw [S.len]; exact hl)]
        refine ⟨v, rfl, ?_⟩
        cases b with
        | false => exact h
        | true => obtain ⟨a, r, w, _⟩ := h; exact ⟨a, r, w⟩
      · cases hj
    · rw [List.getElem?_set_ne hij] at hj ⊢
      exact S.sl j e k hj
  ap := fun j l e e' k k' a hjl hj hl hk hk' qj ql => by
    by_cases hij : i = j
    · subst hij
      rw [List.getElem?_set_ne hjl] at hl ql
      rw [List.getElem?_set] at hj qj
      simp only [if_true] at hj qj
      split at hj
      · cases hj
        split at qj
        · cases qj
          cases b with
          | false => exact hk rfl
          | true => obtain ⟨a', r, _, fr⟩ := h; cases r; exact fr l e' k' hl hk' ql
        · cases qj
      · cases hj
    · rw [List.getElem?_set_ne hij] at hj qj
      by_cases hil : i = l
      · subst hil
        rw [List.getElem?_set] at hl ql
        simp only [if_true] at hl ql
        split at hl
        · cases hl
          split at ql
          · cases ql
            cases b with
            | false => exact hk' rfl
            | true => obtain ⟨a', r, _, fr⟩ := h; cases r; exact fr j e k hj hk qj
          · cases ql
        · cases hl
      · rw [List.getElem?_set_ne hil] at hl ql
        exact S.ap j l e e' k k' a hjl hj hl hk hk' qj ql
  pn := fun j e hj => by
    by_cases hij : i = j
    · subst hij
      rw [List.getElem?_set] at hj
      simp only [if_true] at hj
      split at hj
      · cases b <;> cases hj
      · cases hj
    · rw [List.getElem?_set_ne hij] at hj ⊢
      exact S.pn j e hj
/-- an owned name's content is exchanged -/
theorem SR.put {k : Kd} {e : D} {o' : HO} (S : SR K P Z F σ ρ H) (hi : ρ[i]? = some (some (d, k))) (hk : k ≠ .sh) (hv : σ[i]? = some (some (.ref a))) (new : OwnO K F (upd H a o') a e) : SR K P Z F σ (ρ.set i (some (e, k))) (upd H a o') where
  fh := fun b u q => by
    obtain ⟨v, hv', w⟩ := S.sl i d k hi
    rw [hv] at hv'; cases hv'
    have w' : Own K Z F H a d := by
      cases k with
      | sh => exact absurd rfl hk
      | ow => obtain ⟨b, r, w⟩ := w; cases r; exact w
      | pin => obtain ⟨b, r, w⟩ := w; cases r; exact w
    rw [upd_ne (ne_of_none q w'.nf)]; exact S.fh b u q
  zh := fun b u q => by
    obtain ⟨v, hv', w⟩ := S.sl i d k hi
    rw [hv] at hv'; cases hv'
    have w' : Own K Z F H a d := by
      cases k with
      | sh => exact absurd rfl hk
      | ow => obtain ⟨b, r, w⟩ := w; cases r; exact w
      | pin => obtain ⟨b, r, w⟩ := w; cases r; exact w
    rw [upd_ne (ne_of_none q w'.nz)]; exact S.zh b u q
  zf := S.zf
  len := by rw [List.length_set]; exact S.len
  sl := fun j e' l hj => by
    by_cases hij : i = j
    · subst hij
      rw [List.getElem?_set] at hj
      simp only [if_true] at hj
      split at hj
      · cases hj
        obtain ⟨v, hv', w⟩ := S.sl i d k hi
        rw [hv] at hv'; cases hv'
        refine ⟨.ref a, hv, ?_⟩
        cases k with
        | sh => exact absurd rfl hk
        | ow => obtain ⟨b, r, w⟩ := w; cases r; exact ⟨a, rfl, w.nf, w.nz, new⟩
        | pin => obtain ⟨b, r, w⟩ := w; cases r; exact ⟨a, rfl, w.nf, w.nz, new⟩
      · cases hj
    · rw [List.getElem?_set_ne hij] at hj
      obtain ⟨v, hv', w⟩ := S.sl j e' l hj
      refine ⟨v, hv', ?_⟩
      cases l with
      | sh => exact w
      | ow =>
        obtain ⟨b, r, w⟩ := w; subst r
        have hb : b ≠ a := fun z => by subst z; exact S.ap i j d e' k _ b hij hi hj hk (by decide) hv hv'
        exact ⟨b, rfl, w.nf, w.nz, w.at_.move (Evl.Ex.refl F) fun o q => by rw [upd_ne hb]; exact q⟩
      | pin =>
        obtain ⟨b, r, w⟩ := w; subst r
        have hb : b ≠ a := fun z => by subst z; exact S.ap i j d e' k _ b hij hi hj hk (by decide) hv hv'
        exact ⟨b, rfl, w.nf, w.nz, w.at_.move (Evl.Ex.refl F) fun o q => by rw [upd_ne hb]; exact q⟩
  ap := fun j l e1 e2 k1 k2 b hjl hj hl hk1 hk2 qj ql => by
    have back : ∀ m e3 k3, (ρ.set i (some (e, k)))[m]? = some (some (e3, k3)) → ∃ e4, ρ[m]? = some (some (e4, k3)) := fun m e3 k3 hm => by
      by_cases him : i = m
      · subst him
        rw [List.getElem?_set] at hm
        simp only [if_true] at hm
        split at hm
        · cases hm; exact ⟨d, hi⟩
        · cases hm
      · rw [List.getElem?_set_ne him] at hm; exact ⟨_, hm⟩
    obtain ⟨f1, g1⟩ := back j e1 k1 hj
    obtain ⟨f2, g2⟩ := back l e2 k2 hl
    exact S.ap j l f1 f2 k1 k2 b hjl g1 g2 hk1 hk2 qj ql
  pn := fun j e' hj => by
    by_cases hij : i = j
    · subst hij
      rw [List.getElem?_set] at hj
      simp only [if_true] at hj
      split at hj
      · cases hj; exact S.pn i d hi
      · cases hj
    · rw [List.getElem?_set_ne hij] at hj; exact S.pn j e' hj
/-- an owned name is shared from now on -/
theorem SR.yield (S : SR K P Z F σ ρ H) (hi : ρ[i]? = some (some (d, .ow))) : ∃ v F', σ[i]? = some (some v) ∧ Le F F' ∧ SR K P Z F' σ (ρ.set i (some (d, .sh))) H ∧ Rel K F' v d := by
  obtain ⟨v, hv, a, rfl, w⟩ := S.sl i d .ow hi
  obtain ⟨o, ho⟩ := w.obj_at
  have r : Rel K (upd F a o) (.ref a) d := (w.at_.move (le_upd w.nf) fun _ z => z).rel fun o' e => by rw [ho] at e; cases e; exact upd_same
  refine ⟨_, upd F a o, hv, le_upd w.nf, ⟨fun b u q => ?_, S.zh, fun b u q => ?_, by rw [List.length_set]; exact S.len, fun j e l hj => ?_, fun j l e1 e2 k1 k2 b hjl hj hl hk1 hk2 qj ql => ?_, fun j e hj => ?_⟩, r⟩
  · by_cases hb : b = a
    · subst hb; rw [upd_same] at q; rw [ho]; exact q
    · rw [upd_ne hb] at q; exact S.fh b u q
  · rw [upd_ne (ne_of_none q w.nz)]; exact S.zf b u q
  · by_cases hij : i = j
    · subst hij
      rw [List.getElem?_set] at hj
      simp only [if_true] at hj
      split at hj
      · cases hj; exact ⟨_, hv, r⟩
      · cases hj
    · rw [List.getElem?_set_ne hij] at hj
      obtain ⟨v', hv', w'⟩ := S.sl j e l hj
      refine ⟨v', hv', ?_⟩
      cases l with
      | sh => exact Rel.mono (le_upd w.nf) w'
      | ow =>
        obtain ⟨b, r, w'⟩ := w'; subst r
        have hb : b ≠ a := fun z => by subst z; exact S.ap i j d e _ _ b hij hi hj (by decide) (by decide) hv hv'
        exact ⟨b, rfl, by rw [upd_ne hb]; exact w'.nf, w'.nz, w'.at_.move (le_upd w.nf) fun _ q => q⟩
      | pin =>
        obtain ⟨b, r, w'⟩ := w'; subst r
        have hb : b ≠ a := fun z => by subst z; exact S.ap i j d e _ _ b hij hi hj (by decide) (by decide) hv hv'
        exact ⟨b, rfl, by rw [upd_ne hb]; exact w'.nf, w'.nz, w'.at_.move (le_upd w.nf) fun _ q => q⟩
  · have back : ∀ m e3 k3, k3 ≠ Kd.sh → (ρ.set i (some (d, .sh)))[m]? = some (some (e3, k3)) → ρ[m]? = some (some (e3, k3)) := fun m e3 k3 n hm => by
      by_cases him : i = m
      · subst him
        rw [List.getElem?_set] at hm
        simp only [if_true] at hm
        split at hm
        · cases hm; exact absurd rfl n
        · cases hm
      · rw [List.getElem?_set_ne him] at hm; exact hm
    exact S.ap j l e1 e2 k1 k2 b hjl (back j _ _ hk1 hj) (back l _ _ hk2 hl) hk1 hk2 qj ql
  · by_cases hij : i = j
    · subst hij
      rw [List.getElem?_set] at hj
      simp only [if_true] at hj
      split at hj <;> cases hj
    · rw [List.getElem?_set_ne hij] at hj; exact S.pn j e hj
end
end Nu
namespace Nu
open PySem PySem.Spec PyProof.Rows L2

/-! ## results and readings -/
inductive R (α : Type) where
  | ok (a : α) (ρ : Rho)
  | exc (c : Str) (fs : List (Str × D)) (ρ : Rho)
  | err
def R.bind {α β : Type} (r : R α) (g : α → Rho → R β) : R β :=
  match r with
  | .ok a ρ => g a ρ
  | .exc c fs ρ => .exc c fs ρ
  | .err => .err
@[simp] theorem R.bind_ok {α β : Type} (a : α) (ρ : Rho) (g : α → Rho → R β) : (R.ok a ρ).bind g = g a ρ := rfl
@[simp] theorem R.bind_exc {α β : Type} (c : Str) (fs : List (Str × D)) (ρ : Rho) (g : α → Rho → R β) : (R.exc c fs ρ : R α).bind g = .exc c fs ρ := rfl
@[simp] theorem R.bind_err {α β : Type} (g : α → Rho → R β) : (R.err : R α).bind g = .err := rfl
def R.of {α : Type} (o : Option α) (ρ : Rho) : R α :=
  match o with
  | some a => .ok a ρ
  | none => .err
@[simp] theorem R.of_some {α : Type} (a : α) (ρ : Rho) : R.of (some a) ρ = .ok a ρ := rfl
@[simp] theorem R.of_none {α : Type} (ρ : Rho) : (R.of none ρ : R α) = .err := rfl
/-- operands: a value, or an owned name that is only looked at -/
inductive Opd where
  | val (d : D)
  | var (i : Nat)
inductive Ss where
  | nx (ρ : Rho) | rt (d : D) (fr : Bool) (ρ : Rho) | bk (ρ : Rho) | ct (ρ : Rho) | exc (c : Str) (fs : List (Str × D)) (ρ : Rho) | err

/-- the surroundings of a reading -/
structure Cq where
  K : PySem.W.Frag
  P : Nat → Addr
  W : WX
abbrev RelT (β α : Type) := Hp → Hp → Hp → St → Rho → β → α → Prop
variable {C : Cq} {Z Z' F F' H H' : Hp} {σ σ' : St} {ρ ρ' : Rho}
/-- what is wanted behind a result -/
def At {α β : Type} (C : Cq) (rel : RelT β α) (Z F : Hp) (σ : St) (Q : β → Hp → Prop) : R α → Prop
  | .ok a ρ' => ∀ F' H' v, Le F F' → SR C.K C.P Z F' σ ρ' H' → rel Z F' H' σ ρ' v a → Q v H'
  | .exc c fs ρ' => ∀ F' H' dd vs, Le F F' → SR C.K C.P Z F' σ ρ' H' → F' dd = some (.xd vs) → RelF C.K F' vs fs → C.W (.ref (He.ga C.K c)) (some dd) σ H'
  | .err => False
theorem At.mono {α β : Type} {rel : RelT β α} {Q : β → Hp → Prop} {r : R α} (e : Le F F') (h : At C rel Z F σ Q r) : At C rel Z F' σ Q r := by
  cases r with
  | ok a ρ' => exact fun F2 H2 v l S q => h F2 H2 v (e.trans l) S q
  | exc c fs ρ' => exact fun F2 H2 dd vs l S q => h F2 H2 dd vs (e.trans l) S q
  | err => exact h
def tG {α β : Type} (C : Cq) (rel : RelT β α) (f : Rho → R α) : St → Hp → (β → Hp → Prop) → Prop :=
  fun σ H Q => ∃ Z F ρ, SR C.K C.P Z F σ ρ H ∧ At C rel Z F σ Q (f ρ)
/-- go on behind a part -/
theorem tG.step {α β γ δ : Type} {rel : RelT β α} {rel2 : RelT δ γ} {f : Rho → R α} {g : α → Rho → R γ} {Q : δ → Hp → Prop} {Q1 : β → Hp → Prop} (S : SR C.K C.P Z F σ ρ H) (h : At C rel2 Z F σ Q ((f ρ).bind g))
    (k : ∀ a ρ1 F1 H1 v, Le F F1 → SR C.K C.P Z F1 σ ρ1 H1 → rel Z F1 H1 σ ρ1 v a → At C rel2 Z F1 σ Q (g a ρ1) → Q1 v H1) : tG C rel f σ H Q1 := by
  refine ⟨Z, F, ρ, S, ?_⟩
  cases hf : f ρ with
  | ok a ρ1 =>
    rw [hf] at h
    exact fun F1 H1 v l S1 r => k a ρ1 F1 H1 v l S1 r (At.mono l h)
  | exc c fs ρ1 =>
    rw [hf] at h
    exact h
  | err =>
    rw [hf] at h
    exact h.elim
theorem At.done {α β : Type} {rel : RelT β α} {Q : β → Hp → Prop} {a : α} {v : β} (h : At C rel Z F σ Q (.ok a ρ)) (l : Le F F') (S : SR C.K C.P Z F' σ ρ H') (r : rel Z F' H' σ ρ v a) : Q v H' := h F' H' v l S r

/-! ### the relations -/
def relE (K : PySem.W.Frag) : RelT V (D × Bool) := fun Z F H σ ρ v a => RvR K Z F H σ ρ v a.1 a.2
def relO (K : PySem.W.Frag) : RelT V Opd := fun _ F _ σ _ v o => match o with
  | .val d => Rel K F v d
  | .var i => σ[i]? = some (some v)
def relB : RelT Bool Bool := fun _ _ _ _ _ v a => v = a
inductive Ops (K : PySem.W.Frag) (F : Hp) (σ : St) : List V → List Opd → Prop
  | nil : Ops K F σ [] []
  | cons {v : V} {vs : List V} {o : Opd} {os : List Opd} : (match o with | .val d => Rel K F v d | .var i => σ[i]? = some (some v)) → Ops K F σ vs os → Ops K F σ (v :: vs) (o :: os)
def relA (K : PySem.W.Frag) : RelT (List V) (List Opd) := fun _ F _ σ _ v o => Ops K F σ v o
def tE (C : Cq) (f : Rho → R (D × Bool)) : TE := tG C (relE C.K) f
def tO (C : Cq) (f : Rho → R Opd) : TE := tG C (relO C.K) f
def tT (C : Cq) (f : Rho → R Bool) : TT := tG C relB f
def tA (C : Cq) (f : Rho → R (List Opd)) : TA := tG C (relA C.K) f
theorem relO.mono {v : V} {o : Opd} {K : PySem.W.Frag} (l : Le F F') (h : relO K Z F H σ ρ v o) : relO K Z F' H' σ ρ' v o := by
  cases o with
  | val d => exact Rel.mono l h
  | var i => exact h
theorem Ops.mono {K : PySem.W.Frag} (l : Le F F') : ∀ {vs : List V} {os : List Opd}, Ops K F σ vs os → Ops K F' σ vs os
  | _, _, .nil => .nil
  | _, _, .cons (o := o) h r => .cons (by cases o with | val d => exact Rel.mono l h | var i => exact h) (Ops.mono l r)

/-! ### looking at operands -/
def peek (ρ : Rho) : Opd → Option D
  | .val d => some d
  | .var i => match ρ[i]? with
    | some (some (d, _)) => some d
    | _ => none
/-- v can be read as d -/
def Rl (K : PySem.W.Frag) (F H : Hp) (v : V) (d : D) : Prop := Rel K F v d ∨ ∃ a, v = .ref a ∧ OwnO K F H a d
theorem peek_rl {K : PySem.W.Frag} {P : Nat → Addr} {v : V} {o : Opd} {d : D} (S : SR K P Z F σ ρ H) (r : relO K Z F H σ ρ v o) (h : peek ρ o = some d) : Rl K F H v d := by
  cases o with
  | val d' => cases h; exact .inl r
  | var i =>
    simp only [peek] at h
    cases e : ρ[i]? with
    | none => rw [e] at h; cases h
    | some s =>
      cases s with
      | none => rw [e] at h; cases h
      | some p =>
        obtain ⟨d', k⟩ := p
        rw [e] at h; cases h
        obtain ⟨v', hv', w⟩ := S.sl i _ _ e
        rw [show σ[i]? = some (some v) from r] at hv'; cases hv'
        cases k with
        | sh => exact .inl w
        | ow => obtain ⟨a, q, w⟩ := w; exact .inr ⟨a, q, w.at_⟩
        | pin => obtain ⟨a, q, w⟩ := w; exact .inr ⟨a, q, w.at_⟩
section
variable {K : PySem.W.Frag} {v : V}
theorem sqT_h {a : Addr} {vs : List V} (l : Le F H) (h : SqT K F a vs) : SqT K H a vs := Evl.ex_t l h
theorem sqL_h {a : Addr} {vs : List V} (l : Le F H) (h : SqL K F a vs) : SqL K H a vs := Evl.ex_l l h
theorem Rl.lst {ds : List D} (l : Le F H) (h : Rl K F H v (.lst ds)) : ∃ a vs, v = .ref a ∧ H a = some (.lst vs) ∧ Rels K F vs ds := by
  rcases h with h | ⟨a, rfl, vs, e, r⟩
  · cases h with | lst q r => exact ⟨_, _, rfl, l _ _ q, r⟩
  · exact ⟨a, vs, rfl, e, r⟩
theorem Rl.scr {ds : List D} (l : Le F H) (h : Rl K F H v (.scr ds)) : ∃ a vs, v = .ref a ∧ SqL K H a vs ∧ Rels K F vs ds := by
  rcases h with h | ⟨a, rfl, z⟩
  · cases h with | scr q r => exact ⟨_, _, rfl, sqL_h l q, r⟩
  · exact z.elim
theorem Rl.tup {ds : List D} (l : Le F H) (h : Rl K F H v (.tup ds)) : ∃ a vs, v = .ref a ∧ SqT K H a vs ∧ SqT K F a vs ∧ Rels K F vs ds := by
  rcases h with h | ⟨a, rfl, z⟩
  · cases h with | tup q r => exact ⟨_, _, rfl, sqT_h l q, q, r⟩
  · exact z.elim
theorem Rl.int {i : Int} (h : Rl K F H v (.int i)) : v = .int i := by
  rcases h with h | ⟨a, rfl, z⟩
  · cases h; rfl
  · exact z.elim
theorem Rl.bl {i : Bool} (h : Rl K F H v (.bl i)) : v = .bl i := by
  rcases h with h | ⟨a, rfl, z⟩
  · cases h; rfl
  · exact z.elim
theorem Rl.non (h : Rl K F H v .non) : v = .non := by
  rcases h with h | ⟨a, rfl, z⟩
  · cases h; rfl
  · exact z.elim
theorem Rl.str {x : List Cp} (h : Rl K F H v (.str x)) : v = .str (toStr x) := by
  rcases h with h | ⟨a, rfl, z⟩
  · cases h; rfl
  · exact z.elim
theorem Rl.ty {x : String} (h : Rl K F H v (.ty x)) : v = .ty x := by
  rcases h with h | ⟨a, rfl, z⟩
  · cases h; rfl
  · exact z.elim
theorem Rl.obj {c : Str} {fs : List (Str × D)} (l : Le F H) (h : Rl K F H v (.obj c fs)) : ∃ a dx vs, v = .ref a ∧ H a = some (.ins (He.ga K c) dx vs) ∧ RelF K F vs fs := by
  rcases h with h | ⟨a, rfl, dx, vs, e, r⟩
  · cases h with | obj q r => exact ⟨_, _, _, rfl, l _ _ q, r⟩
  · exact ⟨a, dx, vs, rfl, e, r⟩
end
/-- what an operation gives: frozen or new -/
def NewR (K : PySem.W.Frag) (H F' H' : Hp) (v : V) (d : D) : Bool → Prop
  | false => Rel K F' v d
  | true => ∃ a, v = .ref a ∧ H a = none ∧ F' a = none ∧ OwnO K F' H' a d
theorem NewR.rv {K : PySem.W.Frag} {P : Nat → Addr} {v : V} {d : D} {b : Bool} (S : SR K P Z F σ ρ H) (h : NewR K H F' H' v d b) : RvR K Z F' H' σ ρ v d b := by
  cases b with
  | false => exact h
  | true =>
    obtain ⟨a, rfl, n, nf, w⟩ := h
    refine ⟨a, rfl, ⟨nf, Evl.fresh_back S.zh n, w⟩, fun i e k hi hk q => ?_⟩
    obtain ⟨v', hv', z⟩ := S.sl i e k hi
    rw [q] at hv'; cases hv'
    cases k with
    | sh => exact hk rfl
    | ow =>
      obtain ⟨b, r, z⟩ := z; cases r
      obtain ⟨o, ho⟩ := z.obj_at
      rw [n] at ho; cases ho
    | pin =>
      obtain ⟨b, r, z⟩ := z; cases r
      obtain ⟨o, ho⟩ := z.obj_at
      rw [n] at ho; cases ho

/-! ### names, constants -/
variable {X : Cx}
/-- the surroundings stand in the context -/
structure Fit (C : Cq) (X : Cx) : Prop where
  k : X.K = C.K
  nd : X.N.Nodup
  calm : X.calm = true
  tk : L2N.Takes X C.W
def sName (i : Nat) (ρ : Rho) : R (D × Bool) :=
  match ρ[i]? with
  | some (some (d, .sh)) => .ok (d, false) ρ
  | some (some (d, .ow)) => .ok (d, false) (ρ.set i (some (d, .sh)))
  | _ => .err
def oName (i : Nat) (ρ : Rho) : R Opd :=
  match ρ[i]? with
  | some (some (d, .sh)) => .ok (.val d) ρ
  | some (some _) => .ok (.var i) ρ
  | _ => .err
theorem PE.imp {X : Cx} {e : Expr} {t t' : TE} (h : PE X e t) (w : ∀ σ H Q, t' σ H Q → t σ H Q) : PE X e t' := ⟨fun pins s σ H Q I z => h.run pins s σ H Q I (w σ H Q z)⟩
theorem PT.imp {X : Cx} {e : Expr} {t t' : TT} (h : PT X e t) (w : ∀ σ H Q, t' σ H Q → t σ H Q) : PT X e t' := ⟨fun pins s σ H Q I z => h.run pins s σ H Q I (w σ H Q z)⟩
theorem PW.imp {X : Cx} {e : Expr} {t t' : TT} (h : PW X e t) (w : ∀ σ H Q, t' σ H Q → t σ H Q) : PW X e t' := ⟨fun wh pins s σ H Q I z => h.run wh pins s σ H Q I (w σ H Q z)⟩
theorem PA.imp {X : Cx} {e : List Expr} {t t' : TA} (h : PA X e t) (w : ∀ σ H Q, t' σ H Q → t σ H Q) : PA X e t' := ⟨fun pos pins s σ H Q I z => h.run pos pins s σ H Q I (w σ H Q z)⟩
theorem PS.imp {X : Cx} {e : Stmt} {t t' : TS} (h : PS X e t) (w : ∀ D σ H, t' D σ H → t D σ H) : PS X e t' := ⟨fun pins s σ H D I z => h.run pins s σ H D I (w D σ H z)⟩
theorem PSs.imp {X : Cx} {e : List Stmt} {t t' : TS} (h : PSs X e t) (w : ∀ D σ H, t' D σ H → t D σ H) : PSs X e t' := ⟨fun pins s σ H D I z => h.run pins s σ H D I (w D σ H z)⟩
theorem de_name {i : Nat} {e : Expr} (h : PE X e (tVar i)) : PE X e (tE C (sName i)) := PE.imp h fun σ H Q ⟨Z, F, ρ, S, m⟩ => by
  unfold sName at m
  cases q : ρ[i]? with
  | none => rw [q] at m; exact m.elim
  | some s =>
    cases s with
    | none => rw [q] at m; exact m.elim
    | some p =>
      obtain ⟨d, k⟩ := p
      rw [q] at m
      cases k with
      | sh =>
        obtain ⟨v, hv, w⟩ := S.sl i d _ q
        exact ⟨v, hv, m F H v (Evl.Ex.refl F) S w⟩
      | ow =>
        obtain ⟨v, F', hv, l, S', w⟩ := S.yield q
        exact ⟨v, hv, m F' H v l S' w⟩
      | pin => exact m.elim
theorem do_name {i : Nat} {e : Expr} (h : PE X e (tVar i)) : PE X e (tO C (oName i)) := PE.imp h fun σ H Q ⟨Z, F, ρ, S, m⟩ => by
  unfold oName at m
  cases q : ρ[i]? with
  | none => rw [q] at m; exact m.elim
  | some s =>
    cases s with
    | none => rw [q] at m; exact m.elim
    | some p =>
      obtain ⟨d, k⟩ := p
      rw [q] at m
      obtain ⟨v, hv, w⟩ := S.sl i d _ q
      cases k with
      | sh => exact ⟨v, hv, m F H v (Evl.Ex.refl F) S w⟩
      | ow => exact ⟨v, hv, m F H v (Evl.Ex.refl F) S hv⟩
      | pin => exact ⟨v, hv, m F H v (Evl.Ex.refl F) S hv⟩
/-- any expression as an operand -/
def sOpd (f : Rho → R (D × Bool)) (ρ : Rho) : R Opd := (f ρ).bind fun a ρ1 => .ok (.val a.1) ρ1
theorem do_of {e : Expr} {f : Rho → R (D × Bool)} (h : PE X e (tE C f)) : PE X e (tO C (sOpd f)) := PE.imp h fun σ H Q ⟨Z, F, ρ, S, m⟩ => by
  refine tG.step S m fun a ρ1 F1 H1 v l S1 r m1 => ?_
  obtain ⟨F2, l2, S2, w⟩ := RvR.share S1 r
  exact m1 F2 H1 v l2 S2 w
def sC (d : D) (ρ : Rho) : R (D × Bool) := .ok (d, false) ρ
theorem de_c {e : Expr} {v : V} {d : D} (h : PE X e (tC v)) (r : ∀ F, Rel C.K F v d) : PE X e (tE C (sC d)) := PE.imp h fun σ H Q ⟨Z, F, ρ, S, m⟩ => m F H v (Evl.Ex.refl F) S (r F)

/-! ### operations on two operands, by values -/
def Op2 (K : PySem.W.Frag) (r : R2) (g : D → D → Option (D × Bool)) : Prop :=
  ∀ (F H : Hp) (x y : V) (dx dy d : D) (fr : Bool) (Q : VK), Le F H → Rl K F H x dx → Rl K F H y dy → g dx dy = some (d, fr) →
    (∀ F' H' v, Grow F H F' H' → NewR K H F' H' v d fr → Q v H') → r x y H Q
def sOp2 (g : D → D → Option (D × Bool)) (f1 f2 : Rho → R Opd) (ρ : Rho) : R (D × Bool) :=
  (f1 ρ).bind fun o1 ρ1 => (f2 ρ1).bind fun o2 ρ2 => R.of ((peek ρ2 o1).bind fun d1 => (peek ρ2 o2).bind fun d2 => g d1 d2) ρ2
theorem tOp_of {r : R2} {g : D → D → Option (D × Bool)} {f1 f2 : Rho → R Opd} (ho : Op2 C.K r g) (σ : St) (H : Hp) (Q : VK) (h : tE C (sOp2 g f1 f2) σ H Q) : tOp r (tO C f1) (tO C f2) σ H Q := by
  obtain ⟨Z, F, ρ, S, m⟩ := h
  refine tG.step S m fun o1 ρ1 F1 H1 v1 l1 S1 r1 m1 => ?_
  refine tG.step S1 m1 fun o2 ρ2 F2 H2 v2 l2 S2 r2 m2 => ?_
  cases p1 : peek ρ2 o1 with
  | none => rw [p1] at m2; exact m2.elim
  | some d1 =>
    cases p2 : peek ρ2 o2 with
    | none => rw [p1, p2] at m2; exact m2.elim
    | some d2 =>
      rw [p1, p2] at m2
      cases e : g d1 d2 with
      | none =>
        have m3 : At C (relE C.K) Z F2 σ Q (R.of (g d1 d2) ρ2) := m2
        rw [e] at m3; exact m3.elim
      | some p =>
        obtain ⟨d, fr⟩ := p
        have m3 : At C (relE C.K) Z F2 σ Q (R.of (g d1 d2) ρ2) := m2
        rw [e] at m3
        exact ho F2 H2 v1 v2 d1 d2 d fr Q S2.fh (peek_rl S2 (relO.mono l2 r1) p1) (peek_rl S2 r2 p2) e fun F' H' v gr nw => m3 F' H' v gr.ff (S2.grow gr) (NewR.rv S2 nw)
theorem de_op2 {r : R2} {g : D → D → Option (D × Bool)} {f1 f2 : Rho → R Opd} {op : Operator} {a b : Expr} {pos : Pos} (ho : OpR X (binaryOp op) r) (h2 : Op2 C.K r g) (ha : PE X a (tO C f1)) (hb : PE X b (tO C f2)) : PE X (.BinOp a op b pos) (tE C (sOp2 g f1 f2)) :=
  PE.imp (pe_op ho ha hb) (tOp_of h2)
theorem de_cmp {r : R2} {g : D → D → Option (D × Bool)} {f1 f2 : Rho → R Opd} {op : CmpOp} {a b : Expr} {pos : Pos} (ho : OpR X (compareOp op) r) (h2 : Op2 C.K r g) (ha : PE X a (tO C f1)) (hb : PE X b (tO C f2)) (hm : behindInMarks op b = false) : PE X (.Compare a [op] [b] pos) (tE C (sOp2 g f1 f2)) :=
  PE.imp (pe_cmpR ho ha hb hm) (tOp_of h2)
end Nu
namespace Nu
open PySem PySem.Spec PyProof.Rows L2
variable {C : Cq} {Z Z' F F' H H' : Hp} {σ σ' : St} {ρ ρ' : Rho} {X : Cx}

/-! ## tests -/
def sTest (f : Rho → R (D × Bool)) (ρ : Rho) : R Bool := (f ρ).bind fun a ρ1 => match a.1 with
  | .bl b => .ok b ρ1
  | _ => .err
theorem dt_val {e : Expr} {f : Rho → R (D × Bool)} (h : PE X e (tE C f)) (he : ∀ whole, isTrue e X.env whole = (do let v ← whole; standAt e.pos; holding [v] (truthy v)) := by intro _; rfl) : PT X e (tT C (sTest f)) :=
  PT.imp (pt_val h he) fun σ H Q ⟨Z, F, ρ, S, m⟩ => tG.step S m fun a ρ1 F1 H1 v l S1 r m1 => by
    obtain ⟨d, fr⟩ := a
    cases d with
    | bl b =>
      cases fr with
      | false =>
        cases (show Rel C.K F1 v (.bl b) from r)
        exact ⟨b, rfl, m1 F1 H1 b (Evl.Ex.refl F1) S1 rfl⟩
      | true => obtain ⟨a, _, w, _⟩ := r; exact w.at_.elim
    | _ => exact m1.elim
theorem dt_cmp {r : R2} {g : D → D → Option (D × Bool)} {f1 f2 : Rho → R Opd} {op : CmpOp} {a b : Expr} {pos : Pos} (ho : OpR X (compareOp op) r) (h2 : Op2 C.K r g) (ha : PE X a (tO C f1)) (hb : PE X b (tO C f2)) (hm : behindInMarks op b = false) : PT X (.Compare a [op] [b] pos) (tT C (sTest (sOp2 g f1 f2))) :=
  PT.imp (pt_cmpR ho ha hb hm) fun σ H Q ⟨Z, F, ρ, S, m⟩ => tOp_of h2 σ H _ (tG.step S m fun a ρ1 F1 H1 v l S1 r m1 => by
    obtain ⟨d, fr⟩ := a
    cases d with
    | bl b =>
      cases fr with
      | false =>
        cases (show Rel C.K F1 v (.bl b) from r)
        exact ⟨b, rfl, m1 F1 H1 b (Evl.Ex.refl F1) S1 rfl⟩
      | true => obtain ⟨a, _, w, _⟩ := r; exact w.at_.elim
    | _ => exact m1.elim)
def sNot (f : Rho → R Bool) (ρ : Rho) : R Bool := (f ρ).bind fun b ρ1 => .ok (!b) ρ1
theorem dt_not {a : Expr} {f : Rho → R Bool} {pos : Pos} (h : PT X a (tT C f)) : PT X (.UnaryOp .Not a pos) (tT C (sNot f)) :=
  PT.imp (pt_not h) fun σ H Q ⟨Z, F, ρ, S, m⟩ => tG.step S m fun a ρ1 F1 H1 v l S1 r m1 => by
    cases (show v = a from r)
    exact m1 F1 H1 (!a) (Evl.Ex.refl F1) S1 rfl
def sAnd (f g : Rho → R Bool) (ρ : Rho) : R Bool := (f ρ).bind fun b ρ1 => if b = true then g ρ1 else .ok false ρ1
def sOr (f g : Rho → R Bool) (ρ : Rho) : R Bool := (f ρ).bind fun b ρ1 => if b = true then .ok true ρ1 else g ρ1
theorem dw_and1 {a : Expr} {f : Rho → R Bool} {pos : Pos} (h : PT X a (tT C f)) : PW X (.BoolOp .And [a] pos) (tT C f) := pw_and1 h
theorem dw_or1 {a : Expr} {f : Rho → R Bool} {pos : Pos} (h : PT X a (tT C f)) : PW X (.BoolOp .Or [a] pos) (tT C f) := pw_or1 h
theorem dw_and {a b : Expr} {rest : List Expr} {f g : Rho → R Bool} {pos : Pos} (h : PT X a (tT C f)) (h2 : PW X (.BoolOp .And (b :: rest) pos) (tT C g)) : PW X (.BoolOp .And (a :: b :: rest) pos) (tT C (sAnd f g)) :=
  PW.imp (pw_and h h2) fun σ H Q ⟨Z, F, ρ, S, m⟩ => tG.step S m fun a ρ1 F1 H1 v l S1 r m1 => by
    cases (show v = a from r)
    cases a with
    | true => exact ⟨Z, F1, ρ1, S1, m1⟩
    | false => exact m1 F1 H1 false (Evl.Ex.refl F1) S1 rfl
theorem dw_or {a b : Expr} {rest : List Expr} {f g : Rho → R Bool} {pos : Pos} (h : PT X a (tT C f)) (h2 : PW X (.BoolOp .Or (b :: rest) pos) (tT C g)) : PW X (.BoolOp .Or (a :: b :: rest) pos) (tT C (sOr f g)) :=
  PW.imp (pw_or h h2) fun σ H Q ⟨Z, F, ρ, S, m⟩ => tG.step S m fun a ρ1 F1 H1 v l S1 r m1 => by
    cases (show v = a from r)
    cases a with
    | false => exact ⟨Z, F1, ρ1, S1, m1⟩
    | true => exact m1 F1 H1 true (Evl.Ex.refl F1) S1 rfl
/-- .. as values -/
def sAndV (f g : Rho → R (D × Bool)) (ρ : Rho) : R (D × Bool) := (f ρ).bind fun a ρ1 => match a.1 with
  | .bl true => g ρ1
  | .bl false => .ok (.bl false, false) ρ1
  | _ => .err
def sOrV (f g : Rho → R (D × Bool)) (ρ : Rho) : R (D × Bool) := (f ρ).bind fun a ρ1 => match a.1 with
  | .bl true => .ok (.bl true, false) ρ1
  | .bl false => g ρ1
  | _ => .err
def sNotV (f : Rho → R (D × Bool)) (ρ : Rho) : R (D × Bool) := (f ρ).bind fun a ρ1 => match a.1 with
  | .bl b => .ok (.bl !b, false) ρ1
  | _ => .err
theorem rv_bl {K : PySem.W.Frag} {v : V} {b fr : Bool} (r : relE K Z F H σ ρ v (.bl b, fr)) : v = .bl b := by
  cases fr with
  | false => cases (show Rel K F v (.bl b) from r); rfl
  | true => obtain ⟨a, _, w, _⟩ := r; exact w.at_.elim
theorem rv_int {K : PySem.W.Frag} {v : V} {b : Int} {fr : Bool} (r : relE K Z F H σ ρ v (.int b, fr)) : v = .int b := by
  cases fr with
  | false => cases (show Rel K F v (.int b) from r); rfl
  | true => obtain ⟨a, _, w, _⟩ := r; exact w.at_.elim
theorem de_one {op} {a : Expr} {f : Rho → R (D × Bool)} {pos : Pos} (h : PE X a (tE C f)) : PE X (.BoolOp op [a] pos) (tE C f) := pe_one h
theorem de_and {a b : Expr} {rest : List Expr} {f g : Rho → R (D × Bool)} {pos : Pos} (h : PE X a (tE C f)) (h2 : PE X (.BoolOp .And (b :: rest) pos) (tE C g)) : PE X (.BoolOp .And (a :: b :: rest) pos) (tE C (sAndV f g)) :=
  PE.imp (pe_and h h2) fun σ H Q ⟨Z, F, ρ, S, m⟩ => tG.step S m fun a ρ1 F1 H1 v l S1 r m1 => by
    obtain ⟨d, fr⟩ := a
    cases d with
    | bl b =>
      refine ⟨b, rv_bl r, ?_⟩
      cases b with
      | true => exact ⟨Z, F1, ρ1, S1, m1⟩
      | false => exact m1 F1 H1 _ (Evl.Ex.refl F1) S1 (Rel.bl false)
    | _ => exact m1.elim
theorem de_or {a b : Expr} {rest : List Expr} {f g : Rho → R (D × Bool)} {pos : Pos} (h : PE X a (tE C f)) (h2 : PE X (.BoolOp .Or (b :: rest) pos) (tE C g)) : PE X (.BoolOp .Or (a :: b :: rest) pos) (tE C (sOrV f g)) :=
  PE.imp (pe_or h h2) fun σ H Q ⟨Z, F, ρ, S, m⟩ => tG.step S m fun a ρ1 F1 H1 v l S1 r m1 => by
    obtain ⟨d, fr⟩ := a
    cases d with
    | bl b =>
      refine ⟨b, rv_bl r, ?_⟩
      cases b with
      | false => exact ⟨Z, F1, ρ1, S1, m1⟩
      | true => exact m1 F1 H1 _ (Evl.Ex.refl F1) S1 (Rel.bl true)
    | _ => exact m1.elim
theorem de_not {a : Expr} {f : Rho → R (D × Bool)} {pos : Pos} (h : PE X a (tE C f)) : PE X (.UnaryOp .Not a pos) (tE C (sNotV f)) :=
  PE.imp (pe_not h) fun σ H Q ⟨Z, F, ρ, S, m⟩ => tG.step S m fun a ρ1 F1 H1 v l S1 r m1 => by
    obtain ⟨d, fr⟩ := a
    cases d with
    | bl b => exact ⟨b, rv_bl r, m1 F1 H1 _ (Evl.Ex.refl F1) S1 (Rel.bl (!b))⟩
    | _ => exact m1.elim
def sNeg (f : Rho → R (D × Bool)) (ρ : Rho) : R (D × Bool) := (f ρ).bind fun a ρ1 => match a.1 with
  | .int i => .ok (.int (-i), false) ρ1
  | _ => .err
theorem de_neg {a : Expr} {f : Rho → R (D × Bool)} {pos : Pos} (h : PE X a (tE C f)) : PE X (.UnaryOp .USub a pos) (tE C (sNeg f)) :=
  PE.imp (pe_un un_neg h) fun σ H Q ⟨Z, F, ρ, S, m⟩ => tG.step S m fun a ρ1 F1 H1 v l S1 r m1 => by
    obtain ⟨d, fr⟩ := a
    cases d with
    | int i => exact ⟨i, rv_int r, m1 F1 H1 _ (Evl.Ex.refl F1) S1 (Rel.int (-i))⟩
    | _ => exact m1.elim
def sIf {α : Type} (c : Rho → R Bool) (f g : Rho → R α) (ρ : Rho) : R α := (c ρ).bind fun b ρ1 => if b = true then f ρ1 else g ρ1
theorem de_ifE {c a b : Expr} {fc : Rho → R Bool} {f g : Rho → R (D × Bool)} {pos : Pos} (hc : PT X c (tT C fc)) (ha : PE X a (tE C f)) (hb : PE X b (tE C g)) : PE X (.IfExp c a b pos) (tE C (sIf fc f g)) :=
  PE.imp (pe_ifExp hc ha hb) fun σ H Q ⟨Z, F, ρ, S, m⟩ => tG.step S m fun a ρ1 F1 H1 v l S1 r m1 => by
    cases (show v = a from r)
    cases a with
    | true => exact ⟨Z, F1, ρ1, S1, m1⟩
    | false => exact ⟨Z, F1, ρ1, S1, m1⟩
/-! ### chains of two comparisons -/
def sChain (g1 g2 : D → D → Option (D × Bool)) (f1 f2 f3 : Rho → R Opd) (ρ : Rho) : R (D × Bool) :=
  (f1 ρ).bind fun o1 ρ1 => (f2 ρ1).bind fun o2 ρ2 => (R.of ((peek ρ2 o1).bind fun d1 => (peek ρ2 o2).bind fun d2 => g1 d1 d2) ρ2).bind fun a ρ3 => match a with
    | (.bl true, false) => (f3 ρ3).bind fun o3 ρ4 => R.of ((peek ρ4 o2).bind fun d2 => (peek ρ4 o3).bind fun d3 => g2 d2 d3) ρ4
    | (.bl false, false) => .ok (.bl false, false) ρ3
    | _ => .err
theorem op2_at {r : R2} {g : D → D → Option (D × Bool)} {o1 o2 : Opd} {v1 v2 : V} {Q : VK} {α : Type} (S : SR C.K C.P Z F σ ρ H) (ho : Op2 C.K r g) (r1 : relO C.K Z F H σ ρ v1 o1) (r2 : relO C.K Z F H σ ρ v2 o2) {p : D × Bool}
    (e : ((peek ρ o1).bind fun d1 => (peek ρ o2).bind fun d2 => g d1 d2) = some p) (k : ∀ F' H' v, Grow F H F' H' → NewR C.K H F' H' v p.1 p.2 → Q v H') : r v1 v2 H Q := by
  cases p1 : peek ρ o1 with
  | none => rw [p1] at e; cases e
  | some d1 =>
    cases p2 : peek ρ o2 with
    | none => rw [p1, p2] at e; cases e
    | some d2 =>
      rw [p1, p2] at e
      exact ho F H v1 v2 d1 d2 p.1 p.2 Q S.fh (peek_rl S r1 p1) (peek_rl S r2 p2) e k
theorem tChain_of {r r' : R2} {g1 g2 : D → D → Option (D × Bool)} {f1 f2 f3 : Rho → R Opd} (ho : Op2 C.K r g1) (ho' : Op2 C.K r' g2) (σ : St) (H : Hp) (Q : VK) (h : tE C (sChain g1 g2 f1 f2 f3) σ H Q) : tChain r r' (tO C f1) (tO C f2) (tO C f3) σ H Q := by
  obtain ⟨Z, F, ρ, S, m⟩ := h
  refine tG.step S m fun o1 ρ1 F1 H1 v1 l1 S1 r1 m1 => ?_
  refine tG.step S1 m1 fun o2 ρ2 F2 H2 v2 l2 S2 r2 m2 => ?_
  cases e : ((peek ρ2 o1).bind fun d1 => (peek ρ2 o2).bind fun d2 => g1 d1 d2) with
  | none => rw [e] at m2; exact m2.elim
  | some p =>
    rw [e] at m2
    refine op2_at (α := Unit) S2 ho (relO.mono l2 r1) r2 e fun F3 H3 v gr nw => ?_
    obtain ⟨d, fr⟩ := p
    have S3 := S2.grow gr
    cases d with
    | bl b =>
      cases fr with
      | true => cases b <;> exact m2.elim
      | false =>
        cases (show Rel C.K F3 v (.bl b) from nw)
        refine ⟨b, rfl, ?_⟩
        cases b with
        | false => exact (At.mono gr.ff m2) F3 H3 _ (Evl.Ex.refl F3) S3 (Rel.bl false)
        | true =>
          refine tG.step S3 (At.mono gr.ff m2) fun o3 ρ4 F4 H4 v3 l4 S4 r3 m4 => ?_
          cases e2 : ((peek ρ4 o2).bind fun d2 => (peek ρ4 o3).bind fun d3 => g2 d2 d3) with
          | none => rw [e2] at m4; exact m4.elim
          | some p =>
            rw [e2] at m4
            exact op2_at (α := Unit) S4 ho' (relO.mono (gr.ff.trans l4) r2) r3 e2 fun F' H' v gr nw => m4 F' H' v gr.ff (S4.grow gr) (NewR.rv S4 nw)
    | _ => exact m2.elim
theorem de_chain {r r' : R2} {g1 g2 : D → D → Option (D × Bool)} {f1 f2 f3 : Rho → R Opd} {op op' : CmpOp} {a b c : Expr} {pos : Pos} (ho : OpR X (compareOp op) r) (h1 : Op2 C.K r g1) (ho' : OpR X (compareOp op') r') (h2 : Op2 C.K r' g2) (ha : PE X a (tO C f1)) (hb : PE X b (tO C f2)) (hc : PE X c (tO C f3))
    (hm : lastMarks [op, op'] [b, c] = false := by with_unfolding_all rfl) : PE X (.Compare a [op, op'] [b, c] pos) (tE C (sChain g1 g2 f1 f2 f3)) := PE.imp (pe_chain ho ho' ha hb hc hm) (tChain_of h1 h2)
theorem dt_chain {r r' : R2} {g1 g2 : D → D → Option (D × Bool)} {f1 f2 f3 : Rho → R Opd} {op op' : CmpOp} {a b c : Expr} {pos : Pos} (ho : OpR X (compareOp op) r) (h1 : Op2 C.K r g1) (ho' : OpR X (compareOp op') r') (h2 : Op2 C.K r' g2) (ha : PE X a (tO C f1)) (hb : PE X b (tO C f2)) (hc : PE X c (tO C f3))
    (hm : lastMarks [op, op'] [b, c] = false := by with_unfolding_all rfl) : PT X (.Compare a [op, op'] [b, c] pos) (tT C (sTest (sChain g1 g2 f1 f2 f3))) :=
  PT.imp (pt_chain ho ho' ha hb hc hm) fun σ H Q ⟨Z, F, ρ, S, m⟩ => tChain_of h1 h2 σ H _ (tG.step S m fun a ρ1 F1 H1 v l S1 r m1 => by
    obtain ⟨d, fr⟩ := a
    cases d with
    | bl b => exact ⟨b, rv_bl r, m1 F1 H1 b (Evl.Ex.refl F1) S1 rfl⟩
    | _ => exact m1.elim)
/-! ### subscripts -/
theorem de_ix {r : R2} {g : D → D → Option (D × Bool)} {f1 f2 : Rho → R Opd} {a b : Expr} {pos : Pos} (ho : IxR X r) (h2 : Op2 C.K r g) (ha : PE X a (tO C f1)) (hb : PE X b (tO C f2)) (hs : PlainIx b := by intro _ _; rfl) : PE X (.Subscript a b pos) (tE C (sOp2 g f1 f2)) :=
  PE.imp (pe_ix ho ha hb hs) (tOp_of h2)
/-- a part of a slice -/
def relP : RelT (Option Int) (Option Int) := fun _ _ _ _ _ v a => v = a
def tP (C : Cq) (f : Rho → R (Option Int)) : TO := tG C relP f
theorem PO.imp {X : Cx} {e : Option Expr} {t t' : TO} (h : PO X e t) (w : ∀ σ H Q, t' σ H Q → t σ H Q) : PO X e t' := ⟨fun pins s σ H Q I z => h.run pins s σ H Q I (w σ H Q z)⟩
def sNoP (ρ : Rho) : R (Option Int) := .ok none ρ
def sP (f : Rho → R (D × Bool)) (ρ : Rho) : R (Option Int) := (f ρ).bind fun a ρ1 => match a.1 with
  | .int i => .ok (some i) ρ1
  | _ => .err
theorem dp_none : PO X none (tP C sNoP) := PO.imp po_none fun σ H Q ⟨Z, F, ρ, S, m⟩ => m F H none (Evl.Ex.refl F) S rfl
theorem dp_some {e : Expr} {f : Rho → R (D × Bool)} (h : PE X e (tE C f)) : PO X (some e) (tP C (sP f)) :=
  PO.imp (po_some h) fun σ H Q ⟨Z, F, ρ, S, m⟩ => tG.step S m fun a ρ1 F1 H1 v l S1 r m1 => by
    obtain ⟨d, fr⟩ := a
    cases d with
    | int i => exact ⟨i, rv_int r, m1 F1 H1 _ (Evl.Ex.refl F1) S1 rfl⟩
    | _ => exact m1.elim
def OpSl (K : PySem.W.Frag) (r : V → Option Int → Option Int → Hp → VK → Prop) (g : D → Option Int → Option Int → Option (D × Bool)) : Prop :=
  ∀ (F H : Hp) (x : V) (dx d : D) (lo hi : Option Int) (fr : Bool) (Q : VK), Le F H → Rl K F H x dx → g dx lo hi = some (d, fr) → (∀ F' H' v, Grow F H F' H' → NewR K H F' H' v d fr → Q v H') → r x lo hi H Q
def sSl (g : D → Option Int → Option Int → Option (D × Bool)) (f : Rho → R Opd) (fl fh : Rho → R (Option Int)) (ρ : Rho) : R (D × Bool) :=
  (f ρ).bind fun o ρ1 => (fl ρ1).bind fun lo ρ2 => (fh ρ2).bind fun hi ρ3 => R.of ((peek ρ3 o).bind fun d => g d lo hi) ρ3
theorem de_slice {r : V → Option Int → Option Int → Hp → VK → Prop} {g : D → Option Int → Option Int → Option (D × Bool)} {e : Expr} {lo hi : Option Expr} {f : Rho → R Opd} {fl fh : Rho → R (Option Int)} {p2 pos : Pos} (hr : L2.SlR X r) (h2 : OpSl C.K r g) (he : PE X e (tO C f)) (hl : PO X lo (tP C fl)) (hu : PO X hi (tP C fh)) :
    PE X (.Subscript e (.Slice lo hi none p2) pos) (tE C (sSl g f fl fh)) :=
  PE.imp (pe_slice hr he hl hu) fun σ H Q ⟨Z, F, ρ, S, m⟩ => tG.step S m fun o ρ1 F1 H1 v l1 S1 r1 m1 => tG.step S1 m1 fun lo ρ2 F2 H2 vl l2 S2 rl m2 => tG.step S2 m2 fun hi ρ3 F3 H3 vh l3 S3 rh m3 => by
    obtain rfl : vl = lo := rl
    obtain rfl : vh = hi := rh
    cases p1 : peek ρ3 o with
    | none => rw [p1] at m3; exact m3.elim
    | some d1 =>
      rw [p1] at m3
      have m4 : At C (relE C.K) Z F3 σ Q (R.of (g d1 vl vh) ρ3) := m3
      cases e : g d1 vl vh with
      | none => rw [e] at m4; exact m4.elim
      | some p =>
        rw [e] at m4
        exact h2 F3 H3 v d1 p.1 vl vh p.2 Q S3.fh (peek_rl S3 (relO.mono (l2.trans l3) r1) p1) e fun F' H' v gr nw => m4 F' H' v gr.ff (S3.grow gr) (NewR.rv S3 nw)
/-! ### operand lists, displays, calls of built-ins -/
def sNil (ρ : Rho) : R (List Opd) := .ok [] ρ
def sCons (f : Rho → R Opd) (g : Rho → R (List Opd)) (ρ : Rho) : R (List Opd) := (f ρ).bind fun o ρ1 => (g ρ1).bind fun os ρ2 => .ok (o :: os) ρ2
theorem da_nil : PA X [] (tA C sNil) := PA.imp pa_nil fun σ H Q ⟨Z, F, ρ, S, m⟩ => m F H [] (Evl.Ex.refl F) S .nil
theorem da_cons {e : Expr} {es : List Expr} {f : Rho → R Opd} {g : Rho → R (List Opd)} (h : PE X e (tO C f)) (h2 : PA X es (tA C g)) (hs : starEach (e :: es) X.env = (false, eval e X.env) :: starEach es X.env := by rfl) : PA X (e :: es) (tA C (sCons f g)) :=
  PA.imp (pa_cons h h2 hs) fun σ H Q ⟨Z, F, ρ, S, m⟩ => tG.step S m fun o ρ1 F1 H1 v l1 S1 r1 m1 => tG.step S1 m1 fun os ρ2 F2 H2 vs l2 S2 r2 m2 => m2 F2 H2 (v :: vs) (Evl.Ex.refl F2) S2 (.cons (relO.mono (Z := Z) (H := H2) (H' := H2) (ρ := ρ2) (ρ' := ρ2) (K := C.K) l2 r1) r2)
def vals : List Opd → Option (List D)
  | [] => some []
  | .val d :: r => (vals r).map (d :: ·)
  | .var _ :: _ => none
theorem vals_rels {K : PySem.W.Frag} : ∀ {vs : List V} {os : List Opd} {ds : List D}, Ops K F σ vs os → vals os = some ds → Rels K F vs ds
  | _, _, _, .nil, e => by cases e; exact .nil
  | _, _, _, .cons (o := .val d) (os := os) h r, e => by
    unfold vals at e
    cases q : vals os with
    | none => rw [q] at e; cases e
    | some es => rw [q] at e; cases e; exact .cons h (vals_rels r q)
  | _, _, _, .cons (o := .var i) _ _, e => by cases e
def sTup (g : Rho → R (List Opd)) (ρ : Rho) : R (D × Bool) := (g ρ).bind fun os ρ1 => R.of ((vals os).bind fun ds => if ds.length ≤ sizeLine then some (.tup ds, false) else none) ρ1
def sLst (g : Rho → R (List Opd)) (ρ : Rho) : R (D × Bool) := (g ρ).bind fun os ρ1 => R.of ((vals os).bind fun ds => if ds.length ≤ sizeLine then some (.lst ds, true) else none) ρ1
theorem de_tup {es : List Expr} {k : Nat} {g : Rho → R (List Opd)} {pos : Pos} (h : PA X es (tA C g)) : PE X (.Tuple es k pos) (tE C (sTup g)) :=
  PE.imp (pe_tup h) fun σ H Q ⟨Z, F, ρ, S, m⟩ => tG.step S m fun os ρ1 F1 H1 vs l1 S1 r1 m1 => by
    cases e : vals os with
    | none => rw [e] at m1; exact m1.elim
    | some ds =>
      rw [e] at m1
      have rr := vals_rels r1 e
      have m2 : At C (relE C.K) Z F1 σ Q (R.of (if ds.length ≤ sizeLine then some (.tup ds, false) else none) ρ1) := m1
      by_cases hz : ds.length ≤ sizeLine
      · rw [if_pos hz] at m2
        refine ⟨by rw [rr.length]; exact hz, fun p np => ?_⟩
        have gr : Grow F1 H1 (upd F1 p (.tup vs)) (upd H1 p (.tup vs)) := Grow.frz S1.fh np
        exact m2 _ _ _ gr.ff (S1.grow gr) (Rel.tup (.of upd_same) (rr.mono gr.ff))
      · rw [if_neg hz] at m2; exact m2.elim
theorem de_lst {es : List Expr} {g : Rho → R (List Opd)} {pos : Pos} (h : PA X es (tA C g)) : PE X (.List es pos) (tE C (sLst g)) :=
  PE.imp (pe_lst h) fun σ H Q ⟨Z, F, ρ, S, m⟩ => tG.step S m fun os ρ1 F1 H1 vs l1 S1 r1 m1 => by
    cases e : vals os with
    | none => rw [e] at m1; exact m1.elim
    | some ds =>
      rw [e] at m1
      have rr := vals_rels r1 e
      have m2 : At C (relE C.K) Z F1 σ Q (R.of (if ds.length ≤ sizeLine then some (.lst ds, true) else none) ρ1) := m1
      by_cases hz : ds.length ≤ sizeLine
      · rw [if_pos hz] at m2
        refine ⟨by rw [rr.length]; exact hz, fun p np => ?_⟩
        have gr : Grow F1 H1 F1 (upd H1 p (.lst vs)) := Grow.fresh S1.fh np
        exact m2 _ _ _ gr.ff (S1.grow gr) (NewR.rv (b := true) S1 ⟨p, rfl, np, Evl.fresh_back S1.fh np, vs, upd_same, rr⟩)
      · rw [if_neg hz] at m2; exact m2.elim
def peeks (ρ : Rho) : List Opd → Option (List D)
  | [] => some []
  | o :: r => (peek ρ o).bind fun d => (peeks ρ r).map (d :: ·)
inductive Rls (K : PySem.W.Frag) (F H : Hp) : List V → List D → Prop
  | nil : Rls K F H [] []
  | cons {v : V} {vs : List V} {d : D} {ds : List D} : Rl K F H v d → Rls K F H vs ds → Rls K F H (v :: vs) (d :: ds)
theorem peeks_rls {K : PySem.W.Frag} {P : Nat → Addr} (S : SR K P Z F σ ρ H) : ∀ {vs : List V} {os : List Opd} {ds : List D}, Ops K F σ vs os → peeks ρ os = some ds → Rls K F H vs ds
  | _, _, _, .nil, e => by cases e; exact .nil
  | _, _, _, .cons (o := o) (os := os) h r, e => by
    unfold peeks at e
    cases p : peek ρ o with
    | none => rw [p] at e; cases e
    | some d =>
      cases q : peeks ρ os with
      | none => rw [p, q] at e; cases e
      | some es =>
        rw [p, q] at e; cases e
        exact .cons (peek_rl (o := o) S h p) (peeks_rls S r q)
def OpN (K : PySem.W.Frag) (r : List V → Hp → VK → Prop) (g : List D → Option (D × Bool)) : Prop :=
  ∀ (F H : Hp) (xs : List V) (ds : List D) (d : D) (fr : Bool) (Q : VK), Le F H → Rls K F H xs ds → g ds = some (d, fr) → (∀ F' H' v, Grow F H F' H' → NewR K H F' H' v d fr → Q v H') → r xs H Q
def sFn (g : List D → Option (D × Bool)) (fa : Rho → R (List Opd)) (ρ : Rho) : R (D × Bool) := (fa ρ).bind fun os ρ1 => R.of ((peeks ρ1 os).bind g) ρ1
theorem tCB_of {r : List V → Hp → VK → Prop} {g : List D → Option (D × Bool)} {fa : Rho → R (List Opd)} (ho : OpN C.K r g) (σ : St) (H : Hp) (Q : VK) (h : tE C (sFn g fa) σ H Q) : tCB r (tA C fa) σ H Q := by
  obtain ⟨Z, F, ρ, S, m⟩ := h
  refine tG.step S m fun os ρ1 F1 H1 vs l1 S1 r1 m1 => ?_
  cases p : peeks ρ1 os with
  | none => rw [p] at m1; exact m1.elim
  | some ds =>
    rw [p] at m1
    have m2 : At C (relE C.K) Z F1 σ Q (R.of (g ds) ρ1) := m1
    cases e : g ds with
    | none => rw [e] at m2; exact m2.elim
    | some q =>
      rw [e] at m2
      exact ho F1 H1 vs ds q.1 q.2 Q S1.fh (peeks_rls S1 r1 p) e fun F' H' v gr nw => m2 F' H' v gr.ff (S1.grow gr) (NewR.rv S1 nw)
theorem de_callB {x : Str} {e : Expr} {es : List Expr} {id : String} {r : List V → Hp → VK → Prop} {g : List D → Option (D × Bool)} {fa : Rho → R (List Opd)} {p pos : Pos} (hc : CallR X (.builtin id) r) (h2 : OpN C.K r g) (hg : Gl X x) (hm : X.mg x = none) (hv : bootBuiltins x = some (.builtin id)) (ha : PA X (e :: es) (tA C fa)) (hn : x ≠ "__name__" := by decide) (hdb : (x == ("__debug__" : Str)) = false := by decide)
    (he : starEach (e :: es) X.env = (false, eval e X.env) :: starEach es X.env := by rfl) (hpl : (backTo pos (starEach es X.env)).any (·.1) = false := by rfl) : PE X (.Call (.Name x p) (e :: es) [] pos) (tE C (sFn g fa)) := PE.imp (pe_callB hc hg hm hv ha hn hdb he hpl) (tCB_of h2)
theorem de_callTy {x : Str} {e : Expr} {es : List Expr} {id : String} {r : List V → Hp → VK → Prop} {g : List D → Option (D × Bool)} {fa : Rho → R (List Opd)} {p pos : Pos} (hc : CallR X (.type id) r) (h2 : OpN C.K r g) (hg : Gl X x) (hm : X.mg x = none) (hv : bootBuiltins x = some (.type id)) (ha : PA X (e :: es) (tA C fa)) (hn : x ≠ "__name__" := by decide) (hdb : (x == ("__debug__" : Str)) = false := by decide)
    (he : starEach (e :: es) X.env = (false, eval e X.env) :: starEach es X.env := by rfl) (hpl : (backTo pos (starEach es X.env)).any (·.1) = false := by rfl) : PE X (.Call (.Name x p) (e :: es) [] pos) (tE C (sFn g fa)) := PE.imp (pe_callTy hc hg hm hv ha hn hdb he hpl) (tCB_of h2)
end Nu
namespace Nu
open PySem PySem.Spec PyProof.Rows L2
variable {C : Cq} {Z Z' F F' H H' : Hp} {σ σ' : St} {ρ ρ' : Rho} {X : Cx}

/-! ## statements -/
def AtS (C : Cq) (Z F : Hp) (E : Ends) : Ss → Prop
  | .nx ρ' => ∀ F' H' σ', Le F F' → SR C.K C.P Z F' σ' ρ' H' → E.nx σ' H'
  | .rt d fr ρ' => ∀ F' H' σ' v, Le F F' → SR C.K C.P Z F' σ' ρ' H' → RvR C.K Z F' H' σ' ρ' v d fr → E.rt v H'
  | .bk ρ' => ∀ F' H' σ', Le F F' → SR C.K C.P Z F' σ' ρ' H' → E.bk σ' H'
  | .ct ρ' => ∀ F' H' σ', Le F F' → SR C.K C.P Z F' σ' ρ' H' → E.ct σ' H'
  | .exc c fs ρ' => ∀ F' H' σ' dd vs, Le F F' → SR C.K C.P Z F' σ' ρ' H' → F' dd = some (.xd vs) → RelF C.K F' vs fs → C.W (.ref (He.ga C.K c)) (some dd) σ' H'
  | .err => False
theorem AtS.mono {E : Ends} {r : Ss} (e : Le F F') (h : AtS C Z F E r) : AtS C Z F' E r := by
  cases r with
  | nx ρ' => exact fun F2 H2 s l S => h F2 H2 s (e.trans l) S
  | rt d fr ρ' => exact fun F2 H2 s v l S q => h F2 H2 s v (e.trans l) S q
  | bk ρ' => exact fun F2 H2 s l S => h F2 H2 s (e.trans l) S
  | ct ρ' => exact fun F2 H2 s l S => h F2 H2 s (e.trans l) S
  | exc c fs ρ' => exact fun F2 H2 s dd vs l S q => h F2 H2 s dd vs (e.trans l) S q
  | err => exact h
def tS (C : Cq) (f : Rho → Ss) : TS := fun E σ H => ∃ Z F ρ, SR C.K C.P Z F σ ρ H ∧ AtS C Z F E (f ρ)
def Rx {α : Type} (r : R α) (k : α → Rho → Ss) : Ss :=
  match r with
  | .ok a ρ => k a ρ
  | .exc c fs ρ => .exc c fs ρ
  | .err => .err
@[simp] theorem Rx_ok {α : Type} (a : α) (ρ : Rho) (g : α → Rho → Ss) : Rx (R.ok a ρ) g = g a ρ := rfl
@[simp] theorem Rx_exc {α : Type} (c : Str) (fs : List (Str × D)) (ρ : Rho) (g : α → Rho → Ss) : Rx (R.exc c fs ρ : R α) g = .exc c fs ρ := rfl
@[simp] theorem Rx_err {α : Type} (g : α → Rho → Ss) : Rx (R.err : R α) g = .err := rfl
def Ss.seq (r : Ss) (g : Rho → Ss) : Ss :=
  match r with
  | .nx ρ => g ρ
  | r => r
@[simp] theorem Ss.seq_nx (ρ : Rho) (g : Rho → Ss) : (Ss.nx ρ).seq g = g ρ := rfl
@[simp] theorem Ss.seq_rt (d : D) (fr : Bool) (ρ : Rho) (g : Rho → Ss) : (Ss.rt d fr ρ).seq g = .rt d fr ρ := rfl
@[simp] theorem Ss.seq_bk (ρ : Rho) (g : Rho → Ss) : (Ss.bk ρ).seq g = .bk ρ := rfl
@[simp] theorem Ss.seq_ct (ρ : Rho) (g : Rho → Ss) : (Ss.ct ρ).seq g = .ct ρ := rfl
@[simp] theorem Ss.seq_exc (c : Str) (fs : List (Str × D)) (ρ : Rho) (g : Rho → Ss) : (Ss.exc c fs ρ).seq g = .exc c fs ρ := rfl
@[simp] theorem Ss.seq_err (g : Rho → Ss) : Ss.err.seq g = .err := rfl
theorem tG.stepS {α β : Type} {rel : RelT β α} {f : Rho → R α} {k : α → Rho → Ss} {E : Ends} {Q1 : β → Hp → Prop} (S : SR C.K C.P Z F σ ρ H) (h : AtS C Z F E (Rx (f ρ) k))
    (kk : ∀ a ρ1 F1 H1 v, Le F F1 → SR C.K C.P Z F1 σ ρ1 H1 → rel Z F1 H1 σ ρ1 v a → AtS C Z F1 E (k a ρ1) → Q1 v H1) : tG C rel f σ H Q1 := by
  refine ⟨Z, F, ρ, S, ?_⟩
  cases hf : f ρ with
  | ok a ρ1 =>
    rw [hf] at h
    exact fun F1 H1 v l S1 r => kk a ρ1 F1 H1 v l S1 r (AtS.mono l h)
  | exc c fs ρ1 =>
    rw [hf] at h
    exact fun F1 H1 dd vs l S1 e r => h F1 H1 σ dd vs l S1 e r
  | err =>
    rw [hf] at h
    exact h.elim
def sNx (ρ : Rho) : Ss := .nx ρ
def sSeq (f g : Rho → Ss) (ρ : Rho) : Ss := (f ρ).seq g
theorem dss_nil : PSs X [] (tS C sNx) := PSs.imp pss_nil fun E σ H ⟨Z, F, ρ, S, m⟩ => m F H σ (Evl.Ex.refl F) S
theorem dss_one {st : Stmt} {f : Rho → Ss} (h : PS X st (tS C f)) : PSs X [st] (tS C f) := pss_one h
theorem dss_cons {st : Stmt} {rest : List Stmt} {f g : Rho → Ss} (h : PS X st (tS C f)) (h2 : PSs X rest (tS C g)) : PSs X (st :: rest) (tS C (sSeq f g)) :=
  PSs.imp (pss_cons h h2) fun E σ H ⟨Z, F, ρ, S, m⟩ => by
    refine ⟨Z, F, ρ, S, ?_⟩
    have m' : AtS C Z F E ((f ρ).seq g) := m
    cases hf : f ρ with
    | nx ρ1 => rw [hf] at m'; exact fun F1 H1 σ1 l S1 => ⟨Z, F1, ρ1, S1, AtS.mono l m'⟩
    | rt d fr ρ1 => rw [hf] at m'; exact m'
    | bk ρ1 => rw [hf] at m'; exact m'
    | ct ρ1 => rw [hf] at m'; exact m'
    | exc c fs ρ1 => rw [hf] at m'; exact m'
    | err => rw [hf] at m'; exact m'
theorem ds_pass {pos : Pos} : PS X (.Pass pos) (tS C sNx) := PS.imp ps_pass fun E σ H ⟨Z, F, ρ, S, m⟩ => m F H σ (Evl.Ex.refl F) S
def sBk (ρ : Rho) : Ss := .bk ρ
def sCt (ρ : Rho) : Ss := .ct ρ
theorem ds_break {pos : Pos} : PS X (.Break pos) (tS C sBk) := PS.imp ps_break fun E σ H ⟨Z, F, ρ, S, m⟩ => m F H σ (Evl.Ex.refl F) S
theorem ds_continue {pos : Pos} : PS X (.Continue pos) (tS C sCt) := PS.imp ps_continue fun E σ H ⟨Z, F, ρ, S, m⟩ => m F H σ (Evl.Ex.refl F) S
/-- what is never reached -/
def sNever (_ : Rho) : Ss := .err
theorem ds_never {st : Stmt} : PS X st (tS C sNever) := PS.imp ps_never fun E σ H ⟨Z, F, ρ, S, m⟩ => m
theorem dss_never {st : List Stmt} : PSs X st (tS C sNever) := PSs.imp pss_never fun E σ H ⟨Z, F, ρ, S, m⟩ => m
def sDrop (f : Rho → R (D × Bool)) (ρ : Rho) : Ss := Rx (f ρ) fun _ ρ1 => .nx ρ1
theorem ds_expr {e : Expr} {f : Rho → R (D × Bool)} {pos : Pos} (h : PE X e (tE C f)) (hs : swapsWith e none pos.line X.env = pure false := by rfl) : PS X (.Expr e pos) (tS C (sDrop f)) :=
  PS.imp (ps_expr h hs) fun E σ H ⟨Z, F, ρ, S, m⟩ => tG.stepS S m fun a ρ1 F1 H1 v l S1 r m1 => m1 F1 H1 σ (Evl.Ex.refl F1) S1
def sRet (f : Rho → R (D × Bool)) (ρ : Rho) : Ss := Rx (f ρ) fun a ρ1 => .rt a.1 a.2 ρ1
theorem ds_ret {e : Expr} {f : Rho → R (D × Bool)} {pos : Pos} (h : PE X e (tE C f)) : PS X (.Return (some e) pos) (tS C (sRet f)) :=
  PS.imp (ps_ret h) fun E σ H ⟨Z, F, ρ, S, m⟩ => tG.stepS S m fun a ρ1 F1 H1 v l S1 r m1 => m1 F1 H1 σ v (Evl.Ex.refl F1) S1 r
def sRetN (ρ : Rho) : Ss := .rt .non false ρ
theorem ds_retN {pos : Pos} : PS X (.Return none pos) (tS C sRetN) := PS.imp ps_retN fun E σ H ⟨Z, F, ρ, S, m⟩ => m F H σ _ (Evl.Ex.refl F) S Rel.non
/-- slots forgotten -/
theorem getElem?_set_none {ρ : Rho} {i j : Nat} {p : D × Kd} (h : (ρ.set i none)[j]? = some (some p)) : i ≠ j ∧ ρ[j]? = some (some p) := by
  by_cases hij : i = j
  · subst hij
    rw [List.getElem?_set] at h
    simp only [if_true] at h
    split at h <;> cases h
  · rw [List.getElem?_set_ne hij] at h; exact ⟨hij, h⟩
theorem SR.forget {K : PySem.W.Frag} {P : Nat → Addr} (S : SR K P Z F σ ρ H) (i : Nat) : SR K P Z F σ (ρ.set i none) H where
  fh := S.fh
  zh := S.zh
  zf := S.zf
  len := by rw [List.length_set]; exact S.len
  sl := fun j d k e => S.sl j d k (getElem?_set_none e).2
  ap := fun j l d e k k' a hjl hj hl => S.ap j l d e k k' a hjl (getElem?_set_none hj).2 (getElem?_set_none hl).2
  pn := fun j d e => S.pn j d (getElem?_set_none e).2
/-- return of an owned name: it goes out fresh -/
def sRetV (i : Nat) (ρ : Rho) : Ss :=
  match ρ[i]? with
  | some (some (d, .sh)) => .rt d false ρ
  | some (some (d, .ow)) => .rt d true (ρ.set i none)
  | _ => .err
theorem ds_retV {i : Nat} {e : Expr} {pos : Pos} (h : PE X e (tVar i)) : PS X (.Return (some e) pos) (tS C (sRetV i)) :=
  PS.imp (ps_ret h) fun E σ H ⟨Z, F, ρ, S, m⟩ => by
    unfold sRetV at m
    cases q : ρ[i]? with
    | none => rw [q] at m; exact m.elim
    | some s =>
      cases s with
      | none => rw [q] at m; exact m.elim
      | some p =>
        obtain ⟨d, k⟩ := p
        rw [q] at m
        cases k with
        | sh =>
          obtain ⟨v, hv, w⟩ := S.sl i d _ q
          exact ⟨v, hv, m F H σ v (Evl.Ex.refl F) S w⟩
        | ow =>
          obtain ⟨v, hv, a, rfl, w⟩ := S.sl i d _ q
          refine ⟨_, hv, m F H σ _ (Evl.Ex.refl F) (S.forget i) ⟨a, rfl, w, fun j e l hj hl z => ?_⟩⟩
          obtain ⟨hij, hj'⟩ := getElem?_set_none hj
          exact S.ap i j d e _ l a hij q hj' (by decide) hl hv z
        | pin => exact m.elim
def kd (b : Bool) : Kd := if b then .ow else .sh
def sSet (i : Nat) (f : Rho → R (D × Bool)) (ρ : Rho) : Ss := Rx (f ρ) fun a ρ1 => if isPin ρ1[i]? = true then .err else .nx (ρ1.set i (some (a.1, kd a.2)))
theorem tAsg_of {i : Nat} {f : Rho → R (D × Bool)} (E : Ends) (σ : St) (H : Hp) (h : tS C (sSet i f) E σ H) : tAsg (tE C f) (gName i) E σ H := by
  obtain ⟨Z, F, ρ, S, m⟩ := h
  refine tG.stepS S m fun a ρ1 F1 H1 v l S1 r m1 => ?_
  by_cases hp : isPin ρ1[i]? = true
  · rw [if_pos hp] at m1; exact m1.elim
  · rw [if_neg hp] at m1
    exact m1 F1 H1 _ (Evl.Ex.refl F1) (S1.store r (by simpa using hp))
theorem ds_set {i : Nat} {x : Str} {e : Expr} {f : Rho → R (D × Bool)} {pos pos' : Pos} (hN : X.N.Nodup) (hi : X.N[i]? = some x) (hx : Loc X.env.scope x) (h : PE X e (tE C f)) (hs : swapsWith e (some (.Name x pos')) pos.line X.env = pure false := by rfl) (hf : X.fn x = true ∨ X.env.scope.names.lookup x = some .local := by first | exact .inl rfl | exact .inr rfl | assumption) :
    PS X (.Assign [.Name x pos'] e pos) (tS C (sSet i f)) := PS.imp (ps_set hN hi hx h hs hf) tAsg_of
def sIfS (c : Rho → R Bool) (f g : Rho → Ss) (ρ : Rho) : Ss := Rx (c ρ) fun b ρ1 => if b = true then f ρ1 else g ρ1
theorem ds_if {c : Expr} {a b : List Stmt} {fc : Rho → R Bool} {f g : Rho → Ss} {pos : Pos} (hc : PT X c (tT C fc)) (ha : PSs X a (tS C f)) (hb : PSs X b (tS C g)) : PS X (.If c a b pos) (tS C (sIfS fc f g)) :=
  PS.imp (ps_if hc ha hb) fun E σ H ⟨Z, F, ρ, S, m⟩ => tG.stepS S m fun a ρ1 F1 H1 v l S1 r m1 => by
    cases (show v = a from r)
    cases a with
    | true => exact ⟨Z, F1, ρ1, S1, m1⟩
    | false => exact ⟨Z, F1, ρ1, S1, m1⟩
/-! ### targets -/
inductive Tg where
  | nm (i : Nat)
  | tp (ts : List Tg)
def put1 (i : Nat) (d : D) (ρ : Rho) : Option Rho := if isPin ρ[i]? = true then none else some (ρ.set i (some (d, .sh)))
mutual
def Tg.set : Tg → D → Rho → Option Rho
  | .nm i, d, ρ => put1 i d ρ
  | .tp ts, d, ρ => match d with
    | .tup ds => Tg.sets ts ds ρ
    | _ => none
def Tg.sets : List Tg → List D → Rho → Option Rho
  | [], [], ρ => some ρ
  | t :: ts, d :: ds, ρ => (t.set d ρ).bind fun ρ1 => Tg.sets ts ds ρ1
  | _, _, _ => none
def Tg.slots : Tg → List Nat
  | .nm i => [i]
  | .tp ts => Tg.slotss ts
def Tg.slotss : List Tg → List Nat
  | [] => []
  | t :: ts => t.slots ++ Tg.slotss ts
def Tg.g (K : PySem.W.Frag) : Tg → TG
  | .nm i => gName i
  | .tp ts => gTup K ts.length (Tg.gs K ts)
def Tg.gs (K : PySem.W.Frag) : List Tg → TGs
  | [] => gNil
  | t :: ts => gCons (t.g K) (Tg.gs K ts)
end
/-- only these slots differ -/
def Off (vs : List Nat) (σ σ' : St) : Prop := σ'.length = σ.length ∧ ∀ i, i ∉ vs → σ'[i]? = σ[i]?
mutual
theorem Tg.ok {K : PySem.W.Frag} {P : Nat → Addr} : ∀ (t : Tg) {v : V} {d : D} {σ : St} {ρ ρ' : Rho} {Q : St → Hp → Prop}, SR K P Z F σ ρ H → Rel K F v d → t.set d ρ = some ρ' → (∀ σ', Off t.slots σ σ' → SR K P Z F σ' ρ' H → Q σ' H) → t.g K v σ H Q
  | .nm i, v, d, σ, ρ, ρ', Q, S, r, e, k => by
    have e' : put1 i d ρ = some ρ' := by simpa [Tg.set] using e
    unfold put1 at e'
    by_cases hp : isPin ρ[i]? = true
    · rw [if_pos hp] at e'; cases e'
    · rw [if_neg hp] at e'
      cases e'
      show (gName i) v σ H Q
      refine k _ ⟨by rw [List.length_set], fun j hj => ?_⟩ (S.store (b := false) r (by simpa using hp))
      rw [List.getElem?_set_ne (fun z => hj (by simp [Tg.slots, z]))]
  | .tp ts, v, d, σ, ρ, ρ', Q, S, r, e, k => by
    cases d with
    | tup ds =>
      have e' : Tg.sets ts ds ρ = some ρ' := by simpa [Tg.set] using e
      cases r with
      | tup q rr =>
        show gTup K ts.length (Tg.gs K ts) _ σ H Q
        refine ⟨_, _, rfl, sqT_h S.fh q, ?_, Tg.oks ts S rr e' fun σ' o s => k σ' (by simpa [Tg.slots] using o) s⟩
        rw [rr.length]
        exact Tg.sets_len ts e'
    | _ => simp [Tg.set] at e
theorem Tg.oks {K : PySem.W.Frag} {P : Nat → Addr} : ∀ (ts : List Tg) {vs : List V} {ds : List D} {σ : St} {ρ ρ' : Rho} {Q : St → Hp → Prop}, SR K P Z F σ ρ H → Rels K F vs ds → Tg.sets ts ds ρ = some ρ' → (∀ σ', Off (Tg.slotss ts) σ σ' → SR K P Z F σ' ρ' H → Q σ' H) → Tg.gs K ts vs σ H Q
  | [], vs, ds, σ, ρ, ρ', Q, S, r, e, k => by
    cases r with
    | nil =>
      simp only [Tg.sets, Option.some.injEq] at e
      subst e
      exact ⟨rfl, k σ ⟨rfl, fun _ _ => rfl⟩ S⟩
    | cons _ _ => simp [Tg.sets] at e
  | t :: ts, vs, ds, σ, ρ, ρ', Q, S, r, e, k => by
    cases r with
    | nil => simp [Tg.sets] at e
    | @cons v vs d ds h r =>
      simp only [Tg.sets] at e
      cases e1 : t.set d ρ with
      | none => rw [e1] at e; cases e
      | some ρ1 =>
        rw [e1] at e
        refine ⟨v, vs, rfl, Tg.ok t S h e1 fun σ1 o1 S1 => Tg.oks ts S1 r e fun σ2 o2 S2 => k σ2 ⟨o2.1.trans o1.1, fun i hi => ?_⟩ S2⟩
        simp only [Tg.slotss, List.mem_append, not_or] at hi
        rw [o2.2 i hi.2, o1.2 i hi.1]
theorem Tg.sets_len : ∀ (ts : List Tg) {ds : List D} {ρ ρ' : Rho}, Tg.sets ts ds ρ = some ρ' → ds.length = ts.length
  | [], [], _, _, _ => rfl
  | [], _ :: _, _, _, e => by simp [Tg.sets] at e
  | _ :: _, [], _, _, e => by simp [Tg.sets] at e
  | t :: ts, d :: ds, ρ, ρ', e => by
    simp only [Tg.sets] at e
    cases e1 : t.set d ρ with
    | none => rw [e1] at e; cases e
    | some ρ1 => rw [e1] at e; rw [List.length_cons, List.length_cons, Tg.sets_len ts e]
end
theorem dg_name {i : Nat} {x : Str} {pos : Pos} {K : PySem.W.Frag} (hN : X.N.Nodup) (hi : X.N[i]? = some x) (hx : Loc X.env.scope x) (hf : X.fn x = true ∨ X.env.scope.names.lookup x = some .local := by first | exact .inl rfl | exact .inr rfl | assumption) : PG X (.Name x pos) (Tg.g K (.nm i)) := pg_name hN hi hx hf
theorem dgs_nil {K : PySem.W.Frag} : PGs X [] (Tg.gs K []) := pgs_nil
theorem dgs_cons {e : Expr} {es : List Expr} {K : PySem.W.Frag} {t : Tg} {ts : List Tg} (h : PG X e (t.g K)) (h2 : PGs X es (Tg.gs K ts)) (hs : (assignEach (e :: es) X.env).map (·.2) = assign e X.env :: (assignEach es X.env).map (·.2) := by rfl) : PGs X (e :: es) (Tg.gs K (t :: ts)) := pgs_cons h h2 hs
theorem dg_tup {es : List Expr} {k : Nat} {pos : Pos} {ts : List Tg} (hc : X.calm = true) (h : PGs X es (Tg.gs X.K ts)) (hn : (assignEach es X.env).length = ts.length := by rfl) (hst : (assignEach es X.env).findIdx? (·.1) = none := by rfl) : PG X (.Tuple es k pos) (Tg.g X.K (.tp ts)) := pg_tup hc h hn hst
/-- a target of any form is given a value -/
def sAsg (t : Tg) (f : Rho → R Opd) (ρ : Rho) : Ss := Rx (f ρ) fun o ρ1 => match o with
  | .val d => (match t.set d ρ1 with
    | some ρ2 => .nx ρ2
    | none => .err)
  | .var _ => .err
theorem ds_asg {tg e : Expr} {t : Tg} {f : Rho → R Opd} {pos : Pos} (h : PE X e (tO C f)) (hg : PG X tg (t.g C.K)) (hs : swapsWithSole [tg] e pos.line X.env = pure false := by rfl) (hw : swappedStores [tg] e X.env = pure none := by rfl) (h1 : (assignEach [tg] X.env).map (·.2) = [assign tg X.env] := by rfl) : PS X (.Assign [tg] e pos) (tS C (sAsg t f)) :=
  PS.imp (ps_asg h hg hs hw h1) fun E σ H ⟨Z, F, ρ, S, m⟩ => tG.stepS S m fun o ρ1 F1 H1 v l S1 r m1 => by
    cases o with
    | var i => exact m1.elim
    | val d =>
      cases e : t.set d ρ1 with
      | none => simp only [e] at m1; exact m1.elim
      | some ρ2 =>
        simp only [e] at m1
        exact Tg.ok t S1 r e fun σ' _ S2 => m1 F1 H1 σ' (Evl.Ex.refl F1) S2
end Nu
namespace Nu
open PySem PySem.Spec PyProof.Rows L2
variable {C : Cq} {Z Z' F F' H H' : Hp} {σ σ' : St} {ρ ρ' : Rho} {X : Cx}

/-! ## what is walked -/
structure ItOk (K : PySem.W.Frag) (F : Hp) (J : It) (ds : List D) : Prop where
  go : ∀ F' H (i : Nat) (d : D), Le F F' → Le F' H → ds[i]? = some d → J.go i H ∧ ∀ x H', J.yld i H x H' → ∃ F2, Grow F' H F2 H' ∧ Rel K F2 x d
  stop : ∀ F' H (i : Nat), Le F F' → Le F' H → i = ds.length → J.stop i H
theorem ItOk.mono {K : PySem.W.Frag} {J : It} {ds : List D} (l : Le F F') (h : ItOk K F J ds) : ItOk K F' J ds :=
  ⟨fun F2 H i d l2 => h.go F2 H i d (l.trans l2), fun F2 H i l2 => h.stop F2 H i (l.trans l2)⟩
def relI (K : PySem.W.Frag) : RelT It (List D) := fun _ F _ _ _ J ds => ItOk K F J ds
def tI (C : Cq) (f : Rho → R (List D)) : TI := tG C (relI C.K) f
theorem PI.imp {X : Cx} {tg e : Expr} {t t' : TI} (h : PI X tg e t) (w : ∀ σ H Q, t' σ H Q → t σ H Q) : PI X tg e t' := ⟨fun pins s σ H Q I z => h.run pins s σ H Q I (w σ H Q z)⟩
theorem itl_ok {K : PySem.W.Frag} {a : Addr} {vs : List V} {ds : List D} (q : SqL K F a vs) (r : Rels K F vs ds) : ItOk K F (Itl K a) ds := by
  refine ⟨fun F' H i d l l' e => ?_, fun F' H i l l' e => ?_⟩
  · obtain ⟨v, hv, w⟩ := r.get e
    refine ⟨⟨vs, v, sqL_h (l.trans l') q, hv⟩, fun x H' ⟨eH, hx⟩ => ?_⟩
    subst eH
    have e2 := hx vs (sqL_h (l.trans l') q)
    rw [hv] at e2; cases e2
    exact ⟨F', Grow.refl l', w.mono l⟩
  · refine ⟨vs, sqL_h (l.trans l') q, ?_⟩
    rw [r.length, e]
    exact Nat.le_refl _
theorem itt_ok {K : PySem.W.Frag} {a : Addr} {vs : List V} {ds : List D} (q : SqT K F a vs) (r : Rels K F vs ds) : ItOk K F (Itt K a) ds := by
  refine ⟨fun F' H i d l l' e => ?_, fun F' H i l l' e => ?_⟩
  · obtain ⟨v, hv, w⟩ := r.get e
    refine ⟨⟨vs, v, sqT_h (l.trans l') q, hv⟩, fun x H' ⟨eH, hx⟩ => ?_⟩
    subst eH
    have e2 := hx vs (sqT_h (l.trans l') q)
    rw [hv] at e2; cases e2
    exact ⟨F', Grow.refl l', w.mono l⟩
  · refine ⟨vs, sqT_h (l.trans l') q, ?_⟩
    rw [r.length, e]
    exact Nat.le_refl _
def intsD (lo : Int) (n : Nat) : List D := (List.range n).map fun (i : Nat) => D.int (lo + (i : Int))
theorem itr_ok {K : PySem.W.Frag} {lo : Int} {n : Nat} : ItOk K F (Itr lo n) (intsD lo n) := by
  refine ⟨fun F' H i d l l' e => ?_, fun F' H i l l' e => ?_⟩
  · unfold intsD at e
    rw [List.getElem?_map] at e
    by_cases hi : i < n
    · rw [List.getElem?_range hi] at e
      cases e
      refine ⟨hi, fun x H' ⟨eH, hx⟩ => ?_⟩
      subst eH hx
      exact ⟨F', Grow.refl l', .int _⟩
    · rw [List.getElem?_eq_none (by simpa using hi)] at e; cases e
  · unfold intsD at e
    show n ≤ i
    rw [e]
    simp
/-- the walked thing is a list or a tuple -/
def seqD : D → Option (List D)
  | .lst ds => some ds
  | .tup ds => some ds
  | _ => none
def sItL (f : Rho → R Opd) (ρ : Rho) : R (List D) := (f ρ).bind fun o ρ1 => match o with
  | .val (.lst ds) => .ok ds ρ1
  | _ => .err
def sItT (f : Rho → R Opd) (ρ : Rho) : R (List D) := (f ρ).bind fun o ρ1 => match o with
  | .val (.tup ds) => .ok ds ρ1
  | _ => .err
theorem di_lst {tg e : Expr} {f : Rho → R Opd} (hk : X.K = C.K) (h : PE X e (tO C f)) : PI X tg e (tI C (sItL f)) :=
  PI.imp (pi_list h) fun σ H R ⟨Z, F, ρ, S, m⟩ => tG.step S m fun o ρ1 F1 H1 v l S1 r m1 => by
    cases o with
    | var i => exact m1.elim
    | val d =>
      cases d with
      | lst ds =>
        cases (show Rel C.K F1 v (.lst ds) from r) with
        | lst q rr =>
          rw [hk]
          exact ⟨_, rfl, ⟨_, .of (S1.fh _ _ q)⟩, m1 F1 H1 _ (Evl.Ex.refl F1) S1 (itl_ok (.of q) rr)⟩
      | _ => exact m1.elim
theorem di_tup {tg e : Expr} {f : Rho → R Opd} (hk : X.K = C.K) (h : PE X e (tO C f)) : PI X tg e (tI C (sItT f)) :=
  PI.imp (pi_tup h) fun σ H R ⟨Z, F, ρ, S, m⟩ => tG.step S m fun o ρ1 F1 H1 v l S1 r m1 => by
    cases o with
    | var i => exact m1.elim
    | val d =>
      cases d with
      | tup ds =>
        cases (show Rel C.K F1 v (.tup ds) from r) with
        | tup q rr =>
          rw [hk]
          exact ⟨_, rfl, ⟨_, sqT_h S1.fh q⟩, m1 F1 H1 _ (Evl.Ex.refl F1) S1 (itt_ok q rr)⟩
      | _ => exact m1.elim
def rOk (i : Int) : Bool := decide (-(2 ^ 62) ≤ i) && decide (i < 2 ^ 62)
theorem rOk_iff {i : Int} (h : rOk i = true) : -(2 ^ 62) ≤ i ∧ i < 2 ^ 62 := by
  unfold rOk at h
  rw [Bool.and_eq_true, decide_eq_true_eq, decide_eq_true_eq] at h
  exact h
def rng1 : List Opd → Option (List D)
  | [.val (.int j)] => if rOk j = true then some (intsD 0 j.toNat) else none
  | _ => none
def rng2 : List Opd → Option (List D)
  | [.val (.int i), .val (.int j)] => if rOk i = true ∧ rOk j = true then some (intsD i (j - i).toNat) else none
  | _ => none
def sItR (g : List Opd → Option (List D)) (f : Rho → R (List Opd)) (ρ : Rho) : R (List D) := (f ρ).bind fun os ρ1 => R.of (g os) ρ1
theorem ops1 {K : PySem.W.Frag} {vs : List V} {d : D} (h : Ops K F σ vs [.val d]) : ∃ v, vs = [v] ∧ Rel K F v d := by
  cases h with | cons h r => cases r; exact ⟨_, rfl, h⟩
theorem ops2 {K : PySem.W.Frag} {vs : List V} {d e : D} (h : Ops K F σ vs [.val d, .val e]) : ∃ v w, vs = [v, w] ∧ Rel K F v d ∧ Rel K F w e := by
  cases h with | cons h r => cases r with | cons h2 r => cases r; exact ⟨_, _, rfl, h, h2⟩
theorem di_rng1 {tg a : Expr} {f : Rho → R (List Opd)} {p pos : Pos} (hg : Gl X "range") (hm : X.mg "range" = none) (ha : PA X [a] (tA C f)) (hs : starEach [a] X.env = [(false, eval a X.env)] := by rfl) : PI X tg (.Call (.Name "range" p) [a] [] pos) (tI C (sItR rng1 f)) :=
  PI.imp (pi_range1 hg hm ha hs) fun σ H R ⟨Z, F, ρ, S, m⟩ => tG.step S m fun os ρ1 F1 H1 vs l S1 r m1 => by
    cases e : rng1 os with
    | none => rw [e] at m1; exact m1.elim
    | some ds =>
      rw [e] at m1
      unfold rng1 at e
      split at e
      · rename_i j
        by_cases hj : rOk j = true
        · rw [if_pos hj] at e
          cases e
          obtain ⟨v, rfl, w⟩ := ops1 r
          cases w
          exact ⟨j, rfl, (rOk_iff hj).1, (rOk_iff hj).2, m1 F1 H1 _ (Evl.Ex.refl F1) S1 itr_ok⟩
        · rw [if_neg hj] at e; cases e
      · cases e
theorem di_rng2 {tg a b : Expr} {f : Rho → R (List Opd)} {p pos : Pos} (hg : Gl X "range") (hm : X.mg "range" = none) (ha : PA X [a, b] (tA C f)) (hs : starEach [a, b] X.env = [(false, eval a X.env), (false, eval b X.env)] := by rfl) (hs2 : starEach [b] X.env = [(false, eval b X.env)] := by rfl) : PI X tg (.Call (.Name "range" p) [a, b] [] pos) (tI C (sItR rng2 f)) :=
  PI.imp (pi_range2 hg hm ha hs hs2) fun σ H R ⟨Z, F, ρ, S, m⟩ => tG.step S m fun os ρ1 F1 H1 vs l S1 r m1 => by
    cases e : rng2 os with
    | none => rw [e] at m1; exact m1.elim
    | some ds =>
      rw [e] at m1
      unfold rng2 at e
      split at e
      · rename_i i j
        by_cases hj : rOk i = true ∧ rOk j = true
        · rw [if_pos hj] at e
          cases e
          obtain ⟨v, w, rfl, w1, w2⟩ := ops2 r
          cases w1
          cases w2
          exact ⟨i, j, rfl, ⟨(rOk_iff hj.1).1, (rOk_iff hj.1).2, (rOk_iff hj.2).1, (rOk_iff hj.2).2⟩, m1 F1 H1 _ (Evl.Ex.refl F1) S1 itr_ok⟩
        · rw [if_neg hj] at e; cases e
      · cases e
/-- a text, sign by sign -/
theorem sign_get {x : List Cp} {i : Nat} {c : Cp} (h : x[i]? = some c) : (toStr x).cps[i]? = some c.val := by
  unfold toStr
  show (x.map (·.val)).toArray[i]? = some c.val
  rw [List.getElem?_toArray, List.getElem?_map, h]
  rfl
theorem toStr_length (x : List Cp) : (toStr x).length = x.length := by
  unfold toStr Str.length
  simp

/-! ## for -/
def forLoop (t : Tg) (body : Rho → Ss) : List D → Rho → Ss
  | [], ρ => .nx ρ
  | d :: ds, ρ => match t.set d ρ with
    | none => .err
    | some ρ1 => match body ρ1 with
      | .nx ρ2 => forLoop t body ds ρ2
      | .ct ρ2 => forLoop t body ds ρ2
      | .bk ρ2 => .nx ρ2
      | r => r
def sFor (t : Tg) (it : Rho → R (List D)) (body : Rho → Ss) (ρ : Rho) : Ss := Rx (it ρ) fun ds ρ1 => forLoop t body ds ρ1
theorem ds_for {tg iter : Expr} {body : List Stmt} {t : Tg} {fi : Rho → R (List D)} {fb : Rho → Ss} {pos : Pos} (hp : PassesOwn (model X.prog X.w) X.A X.env X.xe) (hc : X.calm = true) (hi : PI X tg iter (tI C fi)) (hg : PG X tg (t.g C.K)) (hb : PSs X body (tS C fb)) (hs : ∀ x, foldedSetIterable iter X.env x = pure x := by intro _; rfl) : PS X (.For tg iter body [] pos) (tS C (sFor t fi fb)) :=
  PS.imp (ps_for hp hc hi hg hb hs) fun E σ H ⟨Z, F, ρ, S, m⟩ => tG.stepS S m fun ds ρ1 F1 H1 J l S1 r m1 => by
    refine ⟨fun i n σ H => ∃ F ρ, SR C.K C.P Z F σ ρ H ∧ ItOk C.K F J ds ∧ i ≤ ds.length ∧ n = ds.length - i ∧ AtS C Z F E (forLoop t fb (ds.drop i) ρ), ⟨ds.length, F1, ρ1, S1, r, Nat.zero_le _, by simp, m1⟩, ?_⟩
    rintro i n σ2 H2 ⟨F2, ρ2, S2, r2, hi, rfl, m2⟩
    by_cases hlt : i < ds.length
    · have hd : ds[i]? = some ds[i] := List.getElem?_eq_getElem hlt
      obtain ⟨g1, g2⟩ := r2.go F2 H2 i _ (Evl.Ex.refl F2) S2.fh hd
      rw [List.drop_eq_getElem_cons hlt] at m2
      simp only [forLoop] at m2
      refine .inr ⟨g1, fun σ' H' => ∃ F ρ, SR C.K C.P Z F σ' ρ H' ∧ ItOk C.K F J ds ∧ AtS C Z F E (forLoop t fb (ds.drop (i + 1)) ρ), fun σ' H' ⟨F', ρ', S', r', m'⟩ => ⟨ds.length - (i + 1), by omega, F', ρ', S', r', hlt, rfl, m'⟩, fun x H' y => ?_⟩
      obtain ⟨F3, gr, w⟩ := g2 x H' y
      have S3 := S2.grow gr
      cases e : t.set ds[i] ρ2 with
      | none => rw [e] at m2; exact m2.elim
      | some ρ3 =>
        rw [e] at m2
        refine Tg.ok t S3 w e fun σ3 _ S4 => ⟨Z, F3, ρ3, S4, ?_⟩
        have m3 := AtS.mono gr.ff m2
        cases hb : fb ρ3 with
        | nx ρ4 =>
          simp only [hb] at m3
          exact fun F5 H5 σ5 l5 S5 => ⟨F5, ρ4, S5, r2.mono (gr.ff.trans l5), AtS.mono l5 m3⟩
        | ct ρ4 =>
          simp only [hb] at m3
          exact fun F5 H5 σ5 l5 S5 => ⟨F5, ρ4, S5, r2.mono (gr.ff.trans l5), AtS.mono l5 m3⟩
        | bk ρ4 => simp only [hb] at m3; exact m3
        | rt d fr ρ4 => simp only [hb] at m3; exact m3
        | exc c fs ρ4 => simp only [hb] at m3; exact m3
        | err => simp only [hb] at m3; exact m3
    · have e : i = ds.length := by omega
      subst e
      rw [List.drop_length] at m2
      exact .inl ⟨r2.stop F2 H2 _ (Evl.Ex.refl F2) S2.fh rfl, m2 F2 H2 σ2 (Evl.Ex.refl F2) S2⟩
/-! ## while -/
def whileF (c : Rho → R Bool) (b : Rho → Ss) : Nat → Rho → Ss
  | 0, _ => .err
  | n + 1, ρ => Rx (c ρ) fun t ρ1 => if t = true then (match b ρ1 with
      | .nx ρ2 => whileF c b n ρ2
      | .ct ρ2 => whileF c b n ρ2
      | .bk ρ2 => .nx ρ2
      | r => r) else .nx ρ1
theorem whileF_mono (c : Rho → R Bool) (b : Rho → Ss) : ∀ (n m : Nat) (ρ : Rho), n ≤ m → whileF c b n ρ ≠ .err → whileF c b m ρ = whileF c b n ρ
  | 0, _, _, _, h => absurd rfl h
  | n + 1, 0, _, hm, _ => absurd hm (by omega)
  | n + 1, m + 1, ρ, hm, h => by
    simp only [whileF] at h ⊢
    cases hc : c ρ with
    | err => rfl
    | exc _ _ _ => rfl
    | ok t ρ1 =>
      simp only [hc, Rx_ok] at h ⊢
      cases t with
      | false => rfl
      | true =>
        simp only [if_true] at h ⊢
        cases hb : b ρ1 with
        | nx ρ2 => simp only [hb] at h ⊢; exact whileF_mono c b n m ρ2 (by omega) h
        | ct ρ2 => simp only [hb] at h ⊢; exact whileF_mono c b n m ρ2 (by omega) h
        | bk ρ2 => rfl
        | rt _ _ _ => rfl
        | exc _ _ _ => rfl
        | err => rfl
open Classical in
noncomputable def sWhile (c : Rho → R Bool) (b : Rho → Ss) (ρ : Rho) : Ss := if h : ∃ n, whileF c b n ρ ≠ .err then whileF c b (Classical.choose h) ρ else .err
theorem sWhile_eq {c : Rho → R Bool} {b : Rho → Ss} {ρ : Rho} {n : Nat} (h : whileF c b n ρ ≠ .err) : sWhile c b ρ = whileF c b n ρ := by
  have hx : ∃ n, whileF c b n ρ ≠ .err := ⟨n, h⟩
  unfold sWhile
  rw [dif_pos hx]
  have h2 := Classical.choose_spec hx
  rcases Nat.le_total n (Classical.choose hx) with q | q
  · exact whileF_mono c b _ _ ρ q h
  · exact (whileF_mono c b _ _ ρ q h2).symm
theorem ds_while {c : Expr} {body : List Stmt} {fc : Rho → R Bool} {fb : Rho → Ss} {pos : Pos} (hp : PassesOwn (model X.prog X.w) X.A X.env X.xe) (hc : PT X c (tT C fc)) (hb : PSs X body (tS C fb)) : PS X (.While c body [] pos) (tS C (sWhile fc fb)) :=
  PS.imp (ps_while hp hc hb) fun E σ H ⟨Z, F, ρ, S, m⟩ => by
    by_cases hx : ∃ n, whileF fc fb n ρ ≠ .err
    · obtain ⟨n0, hn0⟩ := hx
      rw [sWhile_eq hn0] at m
      refine ⟨fun n σ H => ∃ F ρ, SR C.K C.P Z F σ ρ H ∧ AtS C Z F E (whileF fc fb n ρ), ⟨n0, F, ρ, S, m⟩, ?_⟩
      rintro n σ1 H1 ⟨F1, ρ1, S1, m1⟩
      cases n with
      | zero => exact m1.elim
      | succ n =>
        simp only [whileF] at m1
        refine tG.stepS S1 m1 fun t ρ2 F2 H2 v l S2 r m2 => ?_
        obtain rfl : v = t := r
        cases v with
        | false => exact m2 F2 H2 σ1 (Evl.Ex.refl F2) S2
        | true =>
          refine ⟨fun σ' H' => ∃ F ρ, SR C.K C.P Z F σ' ρ H' ∧ AtS C Z F E (whileF fc fb n ρ), fun σ' H' ⟨F', ρ', S', m'⟩ => ⟨n, Nat.lt_succ_self n, F', ρ', S', m'⟩, Z, F2, ρ2, S2, ?_⟩
          simp only [if_true] at m2
          cases hb : fb ρ2 with
          | nx ρ4 => simp only [hb] at m2; exact fun F5 H5 σ5 l5 S5 => ⟨F5, ρ4, S5, AtS.mono l5 m2⟩
          | ct ρ4 => simp only [hb] at m2; exact fun F5 H5 σ5 l5 S5 => ⟨F5, ρ4, S5, AtS.mono l5 m2⟩
          | bk ρ4 => simp only [hb] at m2; exact m2
          | rt d fr ρ4 => simp only [hb] at m2; exact m2
          | exc c fs ρ4 => simp only [hb] at m2; exact m2
          | err => simp only [hb] at m2; exact m2
    · have e : sWhile fc fb ρ = .err := by
        unfold sWhile
        rw [dif_neg hx]
      rw [e] at m
      exact m.elim
end Nu
namespace Nu
open PySem PySem.Spec PyProof.Rows L2
variable {C : Cq} {Z Z' F F' H H' : Hp} {σ σ' : St} {ρ ρ' : Rho} {X : Cx}

/-! ## comprehensions -/
def wipeR (ρ : Rho) : List Nat → Rho
  | [] => ρ
  | v :: vs => (wipeR ρ vs).set v none
theorem wipeR_some {ρ : Rho} {i : Nat} {p : D × Kd} : ∀ {vs : List Nat}, (wipeR ρ vs)[i]? = some (some p) → ρ[i]? = some (some p) ∧ i ∉ vs
  | [], h => ⟨h, by simp⟩
  | v :: vs, h => by
    unfold wipeR at h
    obtain ⟨h1, h2⟩ := getElem?_set_none h
    obtain ⟨h3, h4⟩ := wipeR_some h2
    exact ⟨h3, by simp only [List.mem_cons, not_or]; exact ⟨fun e => h1 e.symm, h4⟩⟩
theorem wipeR_length (ρ : Rho) : ∀ vs : List Nat, (wipeR ρ vs).length = ρ.length
  | [] => rfl
  | v :: vs => by unfold wipeR; rw [List.length_set, wipeR_length ρ vs]
/-- the state with other slots, at places of which nothing is known -/
theorem SR.other {K : PySem.W.Frag} {P : Nat → Addr} {ρ0 : Rho} {vs : List Nat} (S : SR K P Z F σ ρ0 H) (hl : σ'.length = σ.length) (h : ∀ i, i ∉ vs → σ'[i]? = σ[i]?) : SR K P Z F σ' (wipeR ρ0 vs) H where
  fh := S.fh
  zh := S.zh
  zf := S.zf
  len := by rw [wipeR_length, hl]; exact S.len
  sl := fun i d k e => by
    obtain ⟨h1, h2⟩ := wipeR_some e
    rw [h i h2]
    exact S.sl i d k h1
  ap := fun i j d e k l a hij hi hj hk hl qi qj => by
    obtain ⟨h1, h2⟩ := wipeR_some hi
    obtain ⟨h3, h4⟩ := wipeR_some hj
    rw [h i h2] at qi
    rw [h j h4] at qj
    exact S.ap i j d e k l a hij h1 h3 hk hl qi qj
  pn := fun i d e => by
    obtain ⟨h1, h2⟩ := wipeR_some e
    rw [h i h2]
    exact S.pn i d h1
theorem wipeR_idem (ρ : Rho) (vs : List Nat) : wipeR (wipeR ρ vs) vs = wipeR ρ vs := by
  have all : ∀ ws : List Nat, (∀ v ∈ ws, v ∈ vs) → wipeR (wipeR ρ vs) ws = wipeR ρ vs := by
    intro ws
    induction ws with
    | nil => intro _; rfl
    | cons w ws ih =>
      intro h
      show (wipeR (wipeR ρ vs) ws).set w none = wipeR ρ vs
      rw [ih fun v hv => h v (List.mem_cons_of_mem _ hv)]
      have hw : w ∈ vs := h w List.mem_cons_self
      apply List.ext_getElem?
      intro i
      by_cases hi : w = i
      · subst hi
        rw [List.getElem?_set]
        simp only [if_true]
        split
        · rename_i hlt
          cases q : (wipeR ρ vs)[w]? with
          | none => exact absurd (List.getElem?_eq_none_iff.mp q) (by omega)
          | some s =>
            cases s with
            | none => rfl
            | some p => exact absurd hw (wipeR_some q).2
        · rename_i hlt
          rw [List.getElem?_eq_none (by omega)]
      · rw [List.getElem?_set_ne hi]
  exact all vs fun _ h => h
theorem wipe_eq {σ σ' : St} {vs : List Nat} (hl : σ'.length = σ.length) (h : ∀ i, i ∉ vs → σ'[i]? = σ[i]?) : wipe σ' vs = wipe σ vs := by
  apply List.ext_getElem?
  intro i
  by_cases hi : i ∈ vs
  · have none_at : ∀ (τ : St) (ws : List Nat), i ∈ ws → i < τ.length → (wipe τ ws)[i]? = some none := by
      intro τ ws
      induction ws with
      | nil => intro h; cases h
      | cons w ws ih =>
        intro hm hlt
        unfold wipe
        by_cases hw : w = i
        · subst hw; rw [List.getElem?_set]; simp only [if_true]; rw [if_pos (by rw [wipe_length]; exact hlt)]
        · rw [List.getElem?_set_ne hw]
          rcases List.mem_cons.mp hm with z | z
          · exact absurd z.symm hw
          · exact ih z hlt
    by_cases hlt : i < σ.length
    · rw [none_at σ vs hi hlt, none_at σ' vs hi (by omega)]
    · rw [List.getElem?_eq_none (by rw [wipe_length]; omega), List.getElem?_eq_none (by rw [wipe_length]; omega)]
  · rw [wipe_out hi, wipe_out hi, h i hi]
theorem SR.free_of {K : PySem.W.Frag} {P : Nat → Addr} {D : Addr} {o : HO} (S : SR K P (upd Z D o) F σ ρ H) : Free σ ρ D := fun i d k hi hk q => by
  obtain ⟨v, hv, w⟩ := S.sl i d k hi
  rw [q] at hv; cases hv
  cases k with
  | sh => exact hk rfl
  | ow => obtain ⟨a, e, w⟩ := w; cases e; have := w.nz; rw [upd_same] at this; cases this
  | pin => obtain ⟨a, e, w⟩ := w; cases e; have := w.nz; rw [upd_same] at this; cases this
theorem SR.poke {K : PySem.W.Frag} {P : Nat → Addr} {D : Addr} {o : HO} (S : SR K P Z F σ ρ H) (nf : F D = none) (nz : Z D = none) (fr : Free σ ρ D) : SR K P Z F σ ρ (upd H D o) where
  fh := fun b u e => by rw [upd_ne (ne_of_none e nf)]; exact S.fh b u e
  zh := fun b u e => by rw [upd_ne (ne_of_none e nz)]; exact S.zh b u e
  zf := S.zf
  len := S.len
  sl := fun i d k e => by
    obtain ⟨v, hv, w⟩ := S.sl i d k e
    refine ⟨v, hv, ?_⟩
    cases k with
    | sh => exact w
    | ow =>
      obtain ⟨a, r, w⟩ := w; subst r
      have ha : a ≠ D := fun z => by subst z; exact fr i d _ e (by decide) hv
      exact ⟨a, rfl, w.nf, w.nz, w.at_.move (Evl.Ex.refl F) fun o q => by rw [upd_ne ha]; exact q⟩
    | pin =>
      obtain ⟨a, r, w⟩ := w; subst r
      have ha : a ≠ D := fun z => by subst z; exact fr i d _ e (by decide) hv
      exact ⟨a, rfl, w.nf, w.nz, w.at_.move (Evl.Ex.refl F) fun o q => by rw [upd_ne ha]; exact q⟩
  ap := S.ap
  pn := S.pn
/-- the surroundings within a comprehension: nothing is raised there -/
abbrev Cq.in (C : Cq) : Cq := { C with W := fun _ _ _ _ => False }
def lcLoop (vs : List Nat) (t : Tg) (tt : Rho → R Bool) (f : Rho → R (D × Bool)) : List D → List D → Rho → R (List D)
  | [], acc, ρ => .ok acc ρ
  | d :: ds, acc, ρ => match t.set d ρ with
    | none => .err
    | some ρ1 => match tt ρ1 with
      | .ok true ρ2 => (match f ρ2 with
        | .ok a ρ3 => if acc.length < sizeLine then lcLoop vs t tt f ds (acc ++ [a.1]) (wipeR ρ3 vs) else .err
        | _ => .err)
      | .ok false ρ2 => lcLoop vs t tt f ds acc (wipeR ρ2 vs)
      | _ => .err
def sLc (vs : List Nat) (t : Tg) (it : Rho → R (List D)) (tt : Rho → R Bool) (f : Rho → R (D × Bool)) (ρ : Rho) : R (D × Bool) :=
  (it ρ).bind fun ds ρ1 => (lcLoop vs t tt f ds [] (wipeR ρ1 vs)).bind fun acc ρ2 => .ok (.lst acc, true) ρ2
theorem tLc_of {vs : List Nat} {t : Tg} {it : Rho → R (List D)} {tt : Rho → R Bool} {f : Rho → R (D × Bool)} (hv : ∀ i ∈ t.slots, i ∈ vs) (σ : St) (H : Hp) (Q : VK) (h : tE C (sLc vs t it tt f) σ H Q) : tLc (tI C it) (t.g C.K) (tT C.in tt) (tE C.in f) vs σ H Q := by
  obtain ⟨Z, F, ρ, S, m⟩ := h
  refine tG.step S m fun ds ρ1 F1 H1 J l1 S1 r1 m1 => fun Dd nD => ?_
  have nf1 : F1 Dd = none := Evl.fresh_back S1.fh nD
  have nz1 : Z Dd = none := Evl.fresh_back S1.zh nD
  have fr1 : Free σ ρ1 Dd := fun i d k hi hk q => by
    obtain ⟨v, hv, w⟩ := S1.sl i d k hi
    rw [q] at hv; cases hv
    cases k with
    | sh => exact hk rfl
    | ow => obtain ⟨a, e, w⟩ := w; cases e; obtain ⟨o, ho⟩ := w.obj_at; rw [nD] at ho; cases ho
    | pin => obtain ⟨a, e, w⟩ := w; cases e; obtain ⟨o, ho⟩ := w.obj_at; rw [nD] at ho; cases ho
  let k : List D → Rho → R (D × Bool) := fun acc ρ2 => .ok (.lst acc, true) ρ2
  refine ⟨fun i n H => ∃ F ρ0 acc av, SR C.K C.P Z F (wipe σ vs) (wipeR ρ0 vs) H ∧ H Dd = some (.lst av) ∧ Rels C.K F av acc ∧ F Dd = none ∧ Free (wipe σ vs) (wipeR ρ0 vs) Dd ∧ ItOk C.K F J ds ∧ i ≤ ds.length ∧ n = ds.length - i ∧
      At C (relE C.K) Z F σ Q ((lcLoop vs t tt f (ds.drop i) acc (wipeR ρ0 vs)).bind k), ⟨ds.length, F1, ρ1, [], [], ?_, upd_same, .nil, nf1, ?_, r1, Nat.zero_le _, by simp, m1⟩, ?_⟩
  · exact ((S1.poke nf1 nz1 fr1).other (σ' := wipe σ vs) (wipe_length σ vs) fun i hi => wipe_out hi)
  · intro i d q hi hq z
    obtain ⟨h1, h2⟩ := wipeR_some hi
    rw [wipe_out h2] at z
    exact fr1 i d q h1 hq z
  · rintro i n H2 ⟨F2, ρ0, acc, av, S2, eD, ra, nf2, fr2, r2, hi, rfl, m2⟩
    by_cases hlt : i < ds.length
    · have hd : ds[i]? = some ds[i] := List.getElem?_eq_getElem hlt
      obtain ⟨g1, g2⟩ := r2.go F2 H2 i _ (Evl.Ex.refl F2) S2.fh hd
      rw [List.drop_eq_getElem_cons hlt] at m2
      simp only [lcLoop] at m2
      refine .inr ⟨g1, fun H' => ∃ F ρ0 acc av, SR C.K C.P Z F (wipe σ vs) (wipeR ρ0 vs) H' ∧ H' Dd = some (.lst av) ∧ Rels C.K F av acc ∧ F Dd = none ∧ Free (wipe σ vs) (wipeR ρ0 vs) Dd ∧ ItOk C.K F J ds ∧ At C (relE C.K) Z F σ Q ((lcLoop vs t tt f (ds.drop (i + 1)) acc (wipeR ρ0 vs)).bind k),
        fun H' ⟨F', ρ', acc', av', a1, a2, a3, a4, a5, a6, a7⟩ => ⟨ds.length - (i + 1), by omega, F', ρ', acc', av', a1, a2, a3, a4, a5, a6, hlt, rfl, a7⟩, fun x H' y => ?_⟩
      obtain ⟨F3, gr, w⟩ := g2 x H' y
      have S3 := S2.grow gr
      have eD3 : H' Dd = some (.lst av) := gr.hh _ _ eD
      have nf3 : F3 Dd = none := by
        cases q : F3 Dd with
        | none => rfl
        | some u =>
          rcases gr.new _ _ q with z | z
          · rw [nf2] at z; cases z
          · rw [eD] at z; cases z
      cases e : t.set ds[i] (wipeR ρ0 vs) with
      | none => rw [e] at m2; exact m2.elim
      | some ρ3 =>
        simp only [e] at m2
        refine Tg.ok t (S3.more eD3 nf3 fr2) w e fun σ3 o3 S4 => ?_
        have hw3 : ∀ j, j ∉ vs → σ3[j]? = (wipe σ vs)[j]? := fun j hj => o3.2 j fun z => hj (hv j z)
        have hl3 : σ3.length = (wipe σ vs).length := o3.1
        have ww : wipe σ3 vs = wipe σ vs := by
          rw [wipe_eq hl3 hw3]
          exact wipe_eq (wipe_length σ vs) fun j hj => wipe_out hj
        have back : ∀ j, j ∉ vs → (wipe σ vs)[j]? = σ3[j]? := fun j hj => (hw3 j hj).symm
        refine ⟨ww, upd Z Dd (.lst av), F3, ρ3, S4, ?_⟩
        cases ht : tt ρ3 with
        | err => simp only [ht] at m2; exact m2.elim
        | exc c fs ρ4 => simp only [ht] at m2; exact m2.elim
        | ok b ρ4 =>
          simp only [ht] at m2
          intro F5 H5 b' l5 S5 rb
          obtain rfl : b' = b := rb
          have eD5 : H5 Dd = some (.lst av) := S5.zh _ _ upd_same
          have nf5 : F5 Dd = none := S5.zf _ _ upd_same
          have S5' : SR C.K C.P Z F5 σ3 ρ4 H5 := S5.less (le_upd nz1)
          have fr5 : Free σ3 ρ4 Dd := S5.free_of
          cases b' with
          | false =>
            simp only [Bool.false_eq_true, if_false]
            refine ⟨F5, ρ4, acc, av, S5'.other (σ' := wipe σ vs) hl3.symm back, eD5, ra.mono (gr.ff.trans l5), nf5, ?_, r2.mono (gr.ff.trans l5), At.mono (gr.ff.trans l5) m2⟩
            intro j d q hj hq z
            obtain ⟨h1, h2⟩ := wipeR_some hj
            rw [back j h2] at z
            exact fr5 j d q h1 hq z
          | true =>
            simp only [if_true]
            refine ⟨upd Z Dd (.lst av), F5, ρ4, S5, ?_⟩
            cases hf : f ρ4 with
            | err => simp only [hf] at m2; exact m2.elim
            | exc c fs ρ5 => simp only [hf] at m2; exact m2.elim
            | ok a ρ5 =>
              simp only [hf] at m2
              intro F6 H6 v l6 S6 rv
              obtain ⟨F7, l7, S7, w7⟩ := RvR.share S6 rv
              have eD7 : H6 Dd = some (.lst av) := S7.zh _ _ upd_same
              have nf7 : F7 Dd = none := S7.zf _ _ upd_same
              have S7' : SR C.K C.P Z F7 σ3 ρ5 H6 := S7.less (le_upd nz1)
              have fr7 : Free σ3 ρ5 Dd := S7.free_of
              have ll := gr.ff.trans (l5.trans (l6.trans l7))
              by_cases hz : acc.length < sizeLine
              · rw [if_pos hz] at m2
                refine ⟨av, eD7, by rw [ra.length]; exact hz, F7, ρ5, acc ++ [a.1], av ++ [v], ?_, upd_same, (ra.mono ll).append (.cons w7 .nil), nf7, ?_, r2.mono ll, At.mono ll m2⟩
                · exact (S7'.poke nf7 nz1 fr7).other (σ' := wipe σ vs) hl3.symm back
                · intro j d q hj hq z
                  obtain ⟨h1, h2⟩ := wipeR_some hj
                  rw [back j h2] at z
                  exact fr7 j d q h1 hq z
              · rw [if_neg hz] at m2; exact m2.elim
    · have e : i = ds.length := by omega
      subst e
      rw [List.drop_length] at m2
      refine .inl ⟨r2.stop F2 H2 _ (Evl.Ex.refl F2) S2.fh rfl, ?_⟩
      have S3 : SR C.K C.P Z F2 σ (wipeR (wipeR ρ0 vs) vs) H2 := S2.other (σ' := σ) (wipe_length σ vs).symm fun j hj => (wipe_out hj).symm
      rw [wipeR_idem] at S3
      refine m2 F2 H2 (.ref Dd) (Evl.Ex.refl F2) S3 ⟨Dd, rfl, ⟨nf2, nz1, av, eD, ra⟩, fun j d q hj hq z => ?_⟩
      obtain ⟨h1, h2⟩ := wipeR_some hj
      rw [← wipe_out h2 (σ := σ)] at z
      exact fr2 j d q hj hq z
end Nu
namespace Nu
open PySem PySem.Spec PyProof.Rows L2
variable {C : Cq} {Z Z' F F' H H' : Hp} {σ σ' : St} {ρ ρ' : Rho} {X : Cx}

theorem de_lc {elt tg iter : Expr} {ifs : List Expr} {scope : Scope} {own : List (Str × Nat)} {pos : Pos} {t : Tg} {it : Rho → R (List D)} {tt : Rho → R Bool} {f : Rho → R (D × Bool)} (hc : X.calm = true) (hN : X.N.Nodup) (hi : PI X tg iter (tI C it)) (ok : blkC X.N X.env.scope scope own = true)
    (hg : ∀ (s : Shared) (H : Hp) (A : Addr) (cl : List (Str × Addr)) (fp : List Addr), PG (X.blk s H scope (compEnvC scope cl A X.env) fp) tg (t.g C.K)) (ht : ∀ (s : Shared) (H : Hp) (A : Addr) (cl : List (Str × Addr)) (fp : List Addr), PTs (X.blk s H scope (compEnvC scope cl A X.env) fp) ifs (tT C.in tt))
    (he : ∀ (s : Shared) (H : Hp) (A : Addr) (cl : List (Str × Addr)) (fp : List Addr), PE (X.blk s H scope (compEnvC scope cl A X.env) fp) elt (tE C.in f)) (hv : ∀ i ∈ t.slots, i ∈ own.map (·.2) := by decide) (hs : ∀ x, foldedSetIterable iter X.env x = pure x := by intro _; rfl) :
    PE X (.ListComp elt [⟨tg, iter, ifs, 0⟩] scope pos) (tE C (sLc (own.map (·.2)) t it tt f)) := PE.imp (pe_lc hc hN hi (blkOk_by ok) hg ht he hs) (tLc_of hv)
theorem ds_setLc {i : Nat} {y : Str} {py : Pos} {elt tg iter : Expr} {ifs : List Expr} {scope : Scope} {own : List (Str × Nat)} {pos spos : Pos} {t : Tg} {it : Rho → R (List D)} {tt : Rho → R Bool} {f : Rho → R (D × Bool)} (hc : X.calm = true) (hN : X.N.Nodup) (hy : X.N[i]? = some y) (hyl : X.env.scope.names.lookup y = some .local)
    (hsw : swapsWith (.ListComp elt [⟨tg, iter, ifs, 0⟩] scope pos) (some (.Name y py)) spos.line X.env = pure true) (hi : PI X tg iter (tI C it)) (ok : blkC X.N X.env.scope scope own = true)
    (hg : ∀ (s : Shared) (H : Hp) (A : Addr) (cl : List (Str × Addr)) (fp : List Addr), PG (X.blk s H scope (compEnvC scope cl A X.env) fp) tg (t.g C.K)) (ht : ∀ (s : Shared) (H : Hp) (A : Addr) (cl : List (Str × Addr)) (fp : List Addr), PTs (X.blk s H scope (compEnvC scope cl A X.env) fp) ifs (tT C.in tt))
    (he : ∀ (s : Shared) (H : Hp) (A : Addr) (cl : List (Str × Addr)) (fp : List Addr), PE (X.blk s H scope (compEnvC scope cl A X.env) fp) elt (tE C.in f)) (hv : ∀ i ∈ t.slots, i ∈ own.map (·.2) := by decide) (hs : ∀ x, foldedSetIterable iter X.env x = pure x := by intro _; rfl) :
    PS X (.Assign [.Name y py] (.ListComp elt [⟨tg, iter, ifs, 0⟩] scope pos) spos) (tS C (sSet i (sLc (own.map (·.2)) t it tt f))) :=
  PS.imp (ps_setLc hc hN hy hyl hsw hi (blkOk_by ok) hg ht he hs) fun E σ H h => by
    have h1 := tAsg_of E σ H h
    exact tLc_of hv σ H _ h1
def sYes (ρ : Rho) : R Bool := .ok true ρ
theorem PTs.imp {X : Cx} {e : List Expr} {t t' : TT} (h : PTs X e t) (w : ∀ σ H Q, t' σ H Q → t σ H Q) : PTs X e t' := ⟨fun pins s σ H Q I z => h.run pins s σ H Q I (w σ H Q z)⟩
theorem dts_nil : PTs X [] (tT C sYes) := PTs.imp pts_nil fun σ H Q ⟨Z, F, ρ, S, m⟩ => m F H true (Evl.Ex.refl F) S rfl
theorem dts_one {c : Expr} {f : Rho → R Bool} (h : PT X c (tT C f)) : PTs X [c] (tT C f) := pts_one h

/-! ## arguments of a def -/
inductive Av where
  | val (d : D) | var (i : Nat) | tmp (d : D)
/-- the addresses of the fresh ones -/
def tmps : List V → List Av → List Addr
  | .ref a :: vs, .tmp _ :: as => a :: tmps vs as
  | _ :: vs, _ :: as => tmps vs as
  | _, _ => []
inductive Avs (K : PySem.W.Frag) (Z F H : Hp) (σ : St) (ρ : Rho) : List V → List Av → Prop
  | nil : Avs K Z F H σ ρ [] []
  | val {v : V} {d : D} {vs : List V} {as : List Av} : Rel K F v d → Avs K Z F H σ ρ vs as → Avs K Z F H σ ρ (v :: vs) (.val d :: as)
  | var {v : V} {i : Nat} {vs : List V} {as : List Av} : σ[i]? = some (some v) → Avs K Z F H σ ρ vs as → Avs K Z F H σ ρ (v :: vs) (.var i :: as)
  | tmp {a : Addr} {d : D} {vs : List V} {as : List Av} : Own K Z F H a d → Free σ ρ a → a ∉ tmps vs as → Avs K Z F H σ ρ vs as → Avs K Z F H σ ρ (.ref a :: vs) (.tmp d :: as)
def relV (K : PySem.W.Frag) : RelT (List V) (List Av) := fun Z F H σ ρ vs as => Avs K Z F H σ ρ vs as
def tV (C : Cq) (f : Rho → R (List Av)) : TA := tG C (relV C.K) f
def vNil (ρ : Rho) : R (List Av) := .ok [] ρ
def vE (f : Rho → R (D × Bool)) (g : Rho → R (List Av)) (ρ : Rho) : R (List Av) := (f ρ).bind fun a ρ1 => (g ρ1).bind fun as ρ2 => .ok ((if a.2 then .tmp a.1 else .val a.1) :: as) ρ2
def vN (i : Nat) (g : Rho → R (List Av)) (ρ : Rho) : R (List Av) :=
  match ρ[i]? with
  | some (some (d, .sh)) => (g ρ).bind fun as ρ2 => .ok (.val d :: as) ρ2
  | some (some _) => (g ρ).bind fun as ρ2 => .ok (.var i :: as) ρ2
  | _ => .err
theorem Avs.less {K : PySem.W.Frag} (l : Le Z' Z) : ∀ {vs : List V} {as : List Av}, Avs K Z F H σ ρ vs as → Avs K Z' F H σ ρ vs as
  | _, _, .nil => .nil
  | _, _, .val h r => .val h (Avs.less l r)
  | _, _, .var h r => .var h (Avs.less l r)
  | _, _, .tmp w f n r => .tmp ⟨w.nf, Evl.fresh_back l w.nz, w.at_⟩ f n (Avs.less l r)
theorem Avs.notin {K : PySem.W.Frag} {a : Addr} {o : HO} : ∀ {vs : List V} {as : List Av}, Avs K (upd Z a o) F H σ ρ vs as → a ∉ tmps vs as
  | _, _, .nil => by simp [tmps]
  | v :: vs, _, .val _ r => by
    have q := Avs.notin r
    cases v <;> simpa [tmps] using q
  | v :: vs, _, .var _ r => by
    have q := Avs.notin r
    cases v <;> simpa [tmps] using q
  | _, _, .tmp (a := b) w _ _ r => by
    have hb : a ≠ b := fun z => by
      subst z
      have := w.nz
      rw [upd_same] at this
      cases this
    have q := Avs.notin r
    simp only [tmps, List.mem_cons, not_or]
    exact ⟨hb, q⟩
theorem dv_nil : PA X [] (tV C vNil) := PA.imp pa_nil fun σ H Q ⟨Z, F, ρ, S, m⟩ => m F H [] (Evl.Ex.refl F) S .nil
theorem dv_e {e : Expr} {es : List Expr} {f : Rho → R (D × Bool)} {g : Rho → R (List Av)} (h : PE X e (tE C f)) (h2 : PA X es (tV C g)) (hs : starEach (e :: es) X.env = (false, eval e X.env) :: starEach es X.env := by rfl) : PA X (e :: es) (tV C (vE f g)) :=
  PA.imp (pa_cons h h2 hs) fun σ H Q ⟨Z, F, ρ, S, m⟩ => tG.step S m fun a ρ1 F1 H1 v l1 S1 r1 m1 => by
    obtain ⟨d, fr⟩ := a
    cases fr with
    | false => exact tG.step S1 m1 fun as ρ2 F2 H2 vs l2 S2 r2 m2 => m2 F2 H2 (v :: vs) (Evl.Ex.refl F2) S2 (.val (Rel.mono l2 r1) r2)
    | true =>
      obtain ⟨a, rfl, w, fr⟩ := r1
      obtain ⟨o, ho⟩ := w.obj_at
      have S1' := S1.more ho w.nf fr
      have m1' : At C (relV C.K) Z F1 σ Q ((g ρ1).bind fun as ρ2 => .ok (.tmp d :: as) ρ2) := m1
      refine ⟨upd Z a o, F1, ρ1, S1', ?_⟩
      cases hg : g ρ1 with
      | err => rw [hg] at m1'; exact m1'.elim
      | exc c fs ρ2 =>
        rw [hg] at m1'
        exact fun F2 H2 dd vs l S2 e r => m1' F2 H2 dd vs l (S2.less (le_upd w.nz)) e r
      | ok as ρ2 =>
        rw [hg] at m1'
        intro F2 H2 vs l2 S2 r2
        refine m1' F2 H2 (.ref a :: vs) l2 (S2.less (le_upd w.nz)) (.tmp ⟨S2.zf a o upd_same, w.nz, w.at_.move l2 fun o' e' => ?_⟩ S2.free_of r2.notin (r2.less (le_upd w.nz)))
        rw [ho] at e'; cases e'
        exact S2.zh a _ upd_same
theorem dv_n {i : Nat} {e : Expr} {es : List Expr} {g : Rho → R (List Av)} (h : PE X e (tVar i)) (h2 : PA X es (tV C g)) (hs : starEach (e :: es) X.env = (false, eval e X.env) :: starEach es X.env := by rfl) : PA X (e :: es) (tV C (vN i g)) :=
  PA.imp (pa_cons h h2 hs) fun σ H Q ⟨Z, F, ρ, S, m⟩ => by
    unfold vN at m
    cases q : ρ[i]? with
    | none => rw [q] at m; exact m.elim
    | some s =>
      cases s with
      | none => rw [q] at m; exact m.elim
      | some p =>
        obtain ⟨d, k⟩ := p
        rw [q] at m
        obtain ⟨v, hv, w⟩ := S.sl i d _ q
        refine ⟨v, hv, ?_⟩
        cases k with
        | sh => exact tG.step S m fun as ρ2 F2 H2 vs l2 S2 r2 m2 => m2 F2 H2 (v :: vs) (Evl.Ex.refl F2) S2 (.val (Rel.mono l2 w) r2)
        | ow => exact tG.step S m fun as ρ2 F2 H2 vs l2 S2 r2 m2 => m2 F2 H2 (v :: vs) (Evl.Ex.refl F2) S2 (.var hv r2)
        | pin => exact tG.step S m fun as ρ2 F2 H2 vs l2 S2 r2 m2 => m2 F2 H2 (v :: vs) (Evl.Ex.refl F2) S2 (.var hv r2)

/-! ## what a def is worth -/
inductive Mr where
  | ok (d : D) (fr : Bool) (outs : List D)
  | exc (c : Str) (fs : List (Str × D)) (outs : List D)
  | err
abbrev Mir := List D → Mr
/-- the lent addresses -/
def muA : List Bool → List V → List Addr
  | true :: ms, .ref a :: vs => a :: muA ms vs
  | _ :: ms, _ :: vs => muA ms vs
  | _, _ => []
inductive ArgR (K : PySem.W.Frag) (Z F H : Hp) : List Bool → List V → List D → Prop
  | nil : ArgR K Z F H [] [] []
  | sh {v : V} {d : D} {ms : List Bool} {vs : List V} {ds : List D} : Rel K F v d → ArgR K Z F H ms vs ds → ArgR K Z F H (false :: ms) (v :: vs) (d :: ds)
  | mu {a : Addr} {d : D} {ms : List Bool} {vs : List V} {ds : List D} : Own K Z F H a d → a ∉ muA ms vs → ArgR K Z F H ms vs ds → ArgR K Z F H (true :: ms) (.ref a :: vs) (d :: ds)
inductive OutR (K : PySem.W.Frag) (Z F H : Hp) : List Addr → List D → Prop
  | nil : OutR K Z F H [] []
  | cons {a : Addr} {d : D} {as : List Addr} {ds : List D} : Own K Z F H a d → OutR K Z F H as ds → OutR K Z F H (a :: as) (d :: ds)
def ResR (K : PySem.W.Frag) (Z F H : Hp) (as : List Addr) (v : V) (d : D) : Bool → Prop
  | false => Rel K F v d
  | true => ∃ a, v = .ref a ∧ Own K Z F H a d ∧ a ∉ as
structure Hps (Z F H : Hp) : Prop where
  fh : Le F H
  zh : Le Z H
  zf : ∀ a o, Z a = some o → F a = none
def MrW (K : PySem.W.Frag) (Z F : Hp) (as : List Addr) (Q : VK) (E : XK) : Mr → Prop
  | .ok d fr outs => ∀ v F' H', Le F F' → Hps Z F' H' → OutR K Z F' H' as outs → ResR K Z F' H' as v d fr → Q v H'
  | .exc c fs outs => ∀ dd vs F' H', Le F F' → Hps Z F' H' → OutR K Z F' H' as outs → F' dd = some (.xd vs) → RelF K F' vs fs → E (.ref (He.ga K c)) (some dd) H'
  | .err => False
def spM (K : PySem.W.Frag) (ms : List Bool) (m : Mir) : Sp := fun vs H Q E => ∃ Z F ds, Hps Z F H ∧ ArgR K Z F H ms vs ds ∧ MrW K Z F (muA ms vs) Q E (m ds)
theorem ArgR.len {K : PySem.W.Frag} : ∀ {ms : List Bool} {vs : List V} {ds : List D}, ArgR K Z F H ms vs ds → vs.length = ms.length ∧ ds.length = ms.length
  | _, _, _, .nil => ⟨rfl, rfl⟩
  | _, _, _, .sh _ r => by obtain ⟨h1, h2⟩ := r.len; simp [h1, h2]
  | _, _, _, .mu _ _ r => by obtain ⟨h1, h2⟩ := r.len; simp [h1, h2]
theorem spM_len {K : PySem.W.Frag} {ms : List Bool} {m : Mir} {vs : List V} {H : Hp} {Q : VK} {E : XK} (h : spM K ms m vs H Q E) : vs.length = ms.length := by
  obtain ⟨Z, F, ds, _, r, _⟩ := h
  exact r.len.1
/-- less defined -/
def Mle (m m' : Mir) : Prop := ∀ ds, m ds = .err ∨ m' ds = m ds
theorem spM_imp {K : PySem.W.Frag} {ms : List Bool} {m m' : Mir} (h : Mle m m') (vs : List V) (H : Hp) (Q : VK) (E : XK) (q : spM K ms m vs H Q E) : spM K ms m' vs H Q E := by
  obtain ⟨Z, F, ds, h1, r, w⟩ := q
  refine ⟨Z, F, ds, h1, r, ?_⟩
  rcases h ds with e | e
  · rw [e] at w; exact w.elim
  · rw [e]; exact w
/-! ### a def's body -/
def rho0 : List Bool → List D → Rho
  | m :: ms, d :: ds => some (d, if m then .pin else .sh) :: rho0 ms ds
  | _, _ => []
def outsOf (ρ : Rho) : List Bool → Nat → Option (List D)
  | [], _ => some []
  | false :: ms, i => outsOf ρ ms (i + 1)
  | true :: ms, i => match ρ[i]? with
    | some (some (d, .pin)) => (outsOf ρ ms (i + 1)).map (d :: ·)
    | _ => none
/-- what a body does to its arguments: n its number of names -/
def bodyM (ms : List Bool) (n : Nat) (f : Rho → Ss) : Mir := fun ds =>
  match f (rho0 ms ds ++ List.replicate (n - ds.length) none) with
  | .nx ρ => (match outsOf ρ ms 0 with
    | some outs => .ok .non false outs
    | none => .err)
  | .rt d fr ρ => (match outsOf ρ ms 0 with
    | some outs => .ok d fr outs
    | none => .err)
  | .exc c fs ρ => (match outsOf ρ ms 0 with
    | some outs => .exc c fs outs
    | none => .err)
  | _ => .err
def pinA (vs : List V) (i : Nat) : Addr := match vs[i]? with
  | some (.ref a) => a
  | _ => 0
theorem rho0_length : ∀ {ms : List Bool} {ds : List D}, ds.length = ms.length → (rho0 ms ds).length = ds.length
  | [], [], _ => rfl
  | _ :: ms, _ :: ds, h => by simp only [rho0, List.length_cons]; rw [rho0_length (by simpa using h)]
theorem rho0_get {K : PySem.W.Frag} : ∀ {ms : List Bool} {vs : List V} {ds : List D} {i : Nat} {d : D} {k : Kd}, ArgR K Z F H ms vs ds → (rho0 ms ds)[i]? = some (some (d, k)) →
    (k = .sh ∧ ∃ v, vs[i]? = some v ∧ Rel K F v d) ∨ (k = .pin ∧ ∃ a, vs[i]? = some (.ref a) ∧ Own K Z F H a d ∧ a ∈ muA ms vs)
  | _, _, _, _, _, _, .nil, e => by simp [rho0] at e
  | _, _, _, 0, _, _, .sh h r, e => by
    simp only [rho0, List.getElem?_cons_zero, Option.some.injEq, Prod.mk.injEq, Bool.false_eq_true, if_false] at e
    obtain ⟨rfl, rfl⟩ := e
    exact .inl ⟨rfl, _, rfl, h⟩
  | _, _, _, i + 1, d, k, .sh (v := v) h r, e => by
    rcases rho0_get (i := i) (d := d) (k := k) r (by simpa [rho0] using e) with ⟨q, v', hv, w⟩ | ⟨q, a, ha, w, hm⟩
    · exact .inl ⟨q, v', by simpa using hv, w⟩
    · refine .inr ⟨q, a, by simpa using ha, w, ?_⟩
      cases v <;> exact hm
  | _, _, _, 0, _, _, .mu (a := a) w n r, e => by
    simp only [rho0, List.getElem?_cons_zero, Option.some.injEq, Prod.mk.injEq, if_true] at e
    obtain ⟨rfl, rfl⟩ := e
    exact .inr ⟨rfl, a, rfl, w, by simp [muA]⟩
  | _, _, _, i + 1, d, k, .mu (a := b) w n r, e => by
    rcases rho0_get (i := i) (d := d) (k := k) r (by simpa [rho0] using e) with ⟨q, v', hv, w⟩ | ⟨q, a, ha, w, hm⟩
    · exact .inl ⟨q, v', by simpa using hv, w⟩
    · exact .inr ⟨q, a, by simpa using ha, w, by simp [muA, hm]⟩
theorem rho0_apart {K : PySem.W.Frag} : ∀ {ms : List Bool} {vs : List V} {ds : List D} {i j : Nat} {d e : D} {a : Addr}, ArgR K Z F H ms vs ds → i ≠ j → (rho0 ms ds)[i]? = some (some (d, .pin)) → (rho0 ms ds)[j]? = some (some (e, .pin)) → vs[i]? = some (.ref a) → vs[j]? = some (.ref a) → False
  | _, _, _, _, _, _, _, _, .nil, _, e, _, _, _ => by simp [rho0] at e
  | _, _, _, 0, 0, _, _, _, _, n, _, _, _, _ => n rfl
  | _, _, _, 0, _ + 1, _, _, _, .sh h r, _, e, _, _, _ => by simp [rho0] at e
  | _, _, _, _ + 1, 0, _, _, _, .sh h r, _, _, e, _, _ => by simp [rho0] at e
  | _, _, _, i + 1, j + 1, d, e, a, .sh h r, n, e1, e2, h1, h2 => rho0_apart (i := i) (j := j) (d := d) (e := e) (a := a) r (by omega) (by simpa [rho0] using e1) (by simpa [rho0] using e2) (by simpa using h1) (by simpa using h2)
  | _, _, _, 0, j + 1, d, e, a, .mu w nn r, _, _, e2, h1, h2 => by
    simp only [List.getElem?_cons_zero, Option.some.injEq, V.ref.injEq] at h1
    subst h1
    rcases rho0_get (i := j) (d := e) (k := .pin) r (by simpa [rho0] using e2) with ⟨q, _⟩ | ⟨_, b, hb, _, hm⟩
    · cases q
    · have h3 : some (V.ref b) = some (V.ref _) := hb.symm.trans (by simpa using h2)
      cases h3
      exact nn hm
  | _, _, _, i + 1, 0, d, e, a, .mu w nn r, _, e1, _, h1, h2 => by
    simp only [List.getElem?_cons_zero, Option.some.injEq, V.ref.injEq] at h2
    subst h2
    rcases rho0_get (i := i) (d := d) (k := .pin) r (by simpa [rho0] using e1) with ⟨q, _⟩ | ⟨_, b, hb, _, hm⟩
    · cases q
    · have h3 : some (V.ref b) = some (V.ref _) := hb.symm.trans (by simpa using h1)
      cases h3
      exact nn hm
  | _, _, _, i + 1, j + 1, d, e, a, .mu w nn r, n, e1, e2, h1, h2 => rho0_apart (i := i) (j := j) (d := d) (e := e) (a := a) r (by omega) (by simpa [rho0] using e1) (by simpa [rho0] using e2) (by simpa using h1) (by simpa using h2)
theorem SR.begin {K : PySem.W.Frag} {ms : List Bool} {vs : List V} {ds : List D} {N : List Str} (hp : Hps Z F H) (r : ArgR K Z F H ms vs ds) : SR K (pinA vs) Z F (L2.start N vs) (rho0 ms ds ++ List.replicate (N.length - ds.length) none) H := by
  obtain ⟨l1, l2⟩ := r.len
  have lr : (rho0 ms ds).length = ds.length := rho0_length l2
  have lv : vs.length = ds.length := l1.trans l2.symm
  have at_ : ∀ (i : Nat) (d : D) (k : Kd), (rho0 ms ds ++ List.replicate (N.length - ds.length) none)[i]? = some (some (d, k)) → (rho0 ms ds)[i]? = some (some (d, k)) ∧ i < ds.length := fun i d k e => by
    by_cases hi : i < ds.length
    · rw [List.getElem?_append_left (by omega)] at e
      exact ⟨e, hi⟩
    · rw [List.getElem?_append_right (by omega), List.getElem?_replicate] at e
      split at e <;> cases e
  have sg : ∀ i, i < ds.length → (L2.start N vs)[i]? = (vs[i]?).map some := fun i hi => by
    unfold L2.start
    rw [List.getElem?_append_left (by rw [List.length_map]; omega), List.getElem?_map]
  refine ⟨hp.fh, hp.zh, hp.zf, ?_, fun i d k e => ?_, fun i j d e k l a hij hi hj hk hl qi qj => ?_, fun i d e => ?_⟩
  · unfold L2.start
    simp only [List.length_append, List.length_map, List.length_replicate, lr, lv]
  · obtain ⟨e1, hi⟩ := at_ i d k e
    rw [sg i hi]
    rcases rho0_get r e1 with ⟨rfl, v, hv, w⟩ | ⟨rfl, a, ha, w, _⟩
    · exact ⟨v, by rw [hv]; rfl, w⟩
    · exact ⟨_, by rw [ha]; rfl, a, rfl, w⟩
  · obtain ⟨e1, hi'⟩ := at_ i d k hi
    obtain ⟨e2, hj'⟩ := at_ j e l hj
    rw [sg i hi'] at qi
    rw [sg j hj'] at qj
    rcases rho0_get r e1 with ⟨rfl, _⟩ | ⟨rfl, b, hb, _, _⟩
    · exact hk rfl
    · rcases rho0_get r e2 with ⟨rfl, _⟩ | ⟨rfl, c, hc, _, _⟩
      · exact hl rfl
      · rw [hb] at qi
        rw [hc] at qj
        cases qi
        cases qj
        exact rho0_apart r hij e1 e2 hb hc
  · obtain ⟨e1, hi'⟩ := at_ i d .pin e
    rw [sg i hi']
    rcases rho0_get r e1 with ⟨q, _⟩ | ⟨_, b, hb, _, _⟩
    · cases q
    · rw [hb]
      unfold pinA
      rw [hb]
      rfl
/-- the lent objects at the end -/
theorem outs_ok {K : PySem.W.Frag} {vs0 : List V} (S : SR K (pinA vs0) Z F σ ρ H) : ∀ {ms : List Bool} {i : Nat} {vs : List V} {outs : List D}, vs = vs0.drop i → vs.length = ms.length → (∀ j : Nat, ms[j]? = some true → ∃ a, vs[j]? = some (V.ref a)) → outsOf ρ ms i = some outs → OutR K Z F H (muA ms vs) outs
  | [], i, vs, outs, _, _, _, e => by
    simp only [outsOf, Option.some.injEq] at e
    subst e
    cases vs <;> exact .nil
  | false :: ms, i, vs, outs, hv, hl, hr, e => by
    cases vs with
    | nil => cases hl
    | cons v vs =>
      have h1 : vs = vs0.drop (i + 1) := by rw [← List.drop_drop, ← hv]; rfl
      have q := outs_ok S (ms := ms) (i := i + 1) (vs := vs) h1 (by simpa using hl) (fun j hj => by simpa using hr (j + 1) (by simpa using hj)) (by simpa [outsOf] using e)
      cases v <;> exact q
  | true :: ms, i, vs, outs, hv, hl, hr, e => by
    cases vs with
    | nil => cases hl
    | cons v vs =>
      have h1 : vs = vs0.drop (i + 1) := by rw [← List.drop_drop, ← hv]; rfl
      obtain ⟨a, ha⟩ := hr 0 rfl
      simp only [List.getElem?_cons_zero, Option.some.injEq] at ha
      subst ha
      have hi : vs0[i]? = some (.ref a) := by
        have : (vs0.drop i)[0]? = some (.ref a) := by rw [← hv]; rfl
        rw [List.getElem?_drop] at this
        simpa using this
      have hp : pinA vs0 i = a := by unfold pinA; rw [hi]
      simp only [outsOf] at e
      cases q : ρ[i]? with
      | none => rw [q] at e; cases e
      | some s =>
        cases s with
        | none => rw [q] at e; cases e
        | some p =>
          obtain ⟨d, k⟩ := p
          rw [q] at e
          cases k with
          | sh => cases e
          | ow => cases e
          | pin =>
            cases q2 : outsOf ρ ms (i + 1) with
            | none => rw [q2] at e; cases e
            | some os =>
              rw [q2] at e
              cases e
              have w := S.sl i d .pin q
              obtain ⟨v, hv', b, rfl, w⟩ := w
              have hpn := S.pn i d q
              rw [hv', hp] at hpn
              cases hpn
              exact .cons w (outs_ok S (ms := ms) (i := i + 1) (vs := vs) h1 (by simpa using hl) (fun j hj => by simpa using hr (j + 1) (by simpa using hj)) q2)
theorem argR_refs {K : PySem.W.Frag} : ∀ {ms : List Bool} {vs : List V} {ds : List D}, ArgR K Z F H ms vs ds → ∀ j : Nat, ms[j]? = some true → ∃ a, vs[j]? = some (.ref a)
  | _, _, _, .nil, j, h => by simp at h
  | _, _, _, .sh _ r, 0, h => by simp at h
  | _, _, _, .sh _ r, j + 1, h => by simpa using argR_refs r j (by simpa using h)
  | _, _, _, .mu (a := a) _ _ r, 0, h => ⟨a, rfl⟩
  | _, _, _, .mu _ _ r, j + 1, h => by simpa using argR_refs r j (by simpa using h)
theorem mem_outs {K : PySem.W.Frag} {vs0 : List V} (S : SR K (pinA vs0) Z F σ ρ H) : ∀ {ms : List Bool} {i : Nat} {vs : List V} {outs : List D} {a : Addr}, vs = vs0.drop i → outsOf ρ ms i = some outs → a ∈ muA ms vs → ∃ (j : Nat) (d : D), ρ[j]? = some (some (d, Kd.pin)) ∧ σ[j]? = some (some (V.ref a))
  | [], i, vs, outs, a, _, _, hm => by cases vs <;> simp [muA] at hm
  | false :: ms, i, vs, outs, a, hv, e, hm => by
    cases vs with
    | nil => simp [muA] at hm
    | cons v vs =>
      have h1 : vs = vs0.drop (i + 1) := by rw [← List.drop_drop, ← hv]; rfl
      have hm' : a ∈ muA ms vs := by cases v <;> exact hm
      exact mem_outs S h1 (by simpa [outsOf] using e) hm'
  | true :: ms, i, vs, outs, a, hv, e, hm => by
    cases vs with
    | nil => simp [muA] at hm
    | cons v vs =>
      have h1 : vs = vs0.drop (i + 1) := by rw [← List.drop_drop, ← hv]; rfl
      have hi : vs0[i]? = some v := by
        have : (vs0.drop i)[0]? = some v := by rw [← hv]; rfl
        rw [List.getElem?_drop] at this
        simpa using this
      simp only [outsOf] at e
      cases q : ρ[i]? with
      | none => rw [q] at e; cases e
      | some s =>
        cases s with
        | none => rw [q] at e; cases e
        | some p =>
          obtain ⟨d, k⟩ := p
          rw [q] at e
          cases k with
          | sh => cases e
          | ow => cases e
          | pin =>
            cases q2 : outsOf ρ ms (i + 1) with
            | none => rw [q2] at e; cases e
            | some os =>
              have rec_ : a ∈ muA ms vs → ∃ (j : Nat) (d : D), ρ[j]? = some (some (d, Kd.pin)) ∧ σ[j]? = some (some (V.ref a)) := fun h => mem_outs S h1 q2 h
              cases v with
              | ref b =>
                simp only [muA, List.mem_cons] at hm
                rcases hm with z | z
                · subst z
                  refine ⟨i, d, q, ?_⟩
                  have hpn := S.pn i d q
                  rw [show pinA vs0 i = a by unfold pinA; rw [hi]] at hpn
                  exact hpn
                · exact rec_ z
              | _ => exact rec_ hm
theorem body_at {K : PySem.W.Frag} {ms : List Bool} {vs : List V} {ds : List D} {N : List Str} {f : Rho → Ss} {Q : VK} {E : XK} (hp : Hps Z F H) (r : ArgR K Z F H ms vs ds) (w : MrW K Z F (muA ms vs) Q E (bodyM ms N.length f ds)) :
    tS ⟨K, pinA vs, fun cls d _ H => E cls d H⟩ f { nx := fun _ H' => Q .non H', rt := Q } (L2.start N vs) H := by
  refine ⟨Z, F, _, SR.begin hp r, ?_⟩
  unfold bodyM at w
  have fin : ∀ {ρ' : Rho} {outs : List D} {F' H' : Hp} {σ' : St}, outsOf ρ' ms 0 = some outs → SR K (pinA vs) Z F' σ' ρ' H' → OutR K Z F' H' (muA ms vs) outs := fun e S => outs_ok S (i := 0) rfl r.len.1 (argR_refs r) e
  cases hf : f (rho0 ms ds ++ List.replicate (N.length - ds.length) none) with
  | nx ρ' =>
    rw [hf] at w
    cases e : outsOf ρ' ms 0 with
    | none => simp only [e] at w; exact w.elim
    | some outs => simp only [e] at w; exact fun F' H' σ' l S => w _ F' H' l ⟨S.fh, S.zh, S.zf⟩ (fin e S) Rel.non
  | rt d fr ρ' =>
    rw [hf] at w
    cases e : outsOf ρ' ms 0 with
    | none => simp only [e] at w; exact w.elim
    | some outs =>
      simp only [e] at w
      intro F' H' σ' v l S rv
      refine w v F' H' l ⟨S.fh, S.zh, S.zf⟩ (fin e S) ?_
      cases fr with
      | false => exact rv
      | true =>
        obtain ⟨a, rfl, ow, free⟩ := rv
        refine ⟨a, rfl, ow, fun hm => ?_⟩
        obtain ⟨j, d', hj, hs⟩ := mem_outs S (i := 0) rfl e hm
        exact free j d' .pin hj (by decide) hs
  | exc c fs ρ' =>
    rw [hf] at w
    cases e : outsOf ρ' ms 0 with
    | none => simp only [e] at w; exact w.elim
    | some outs => simp only [e] at w; exact fun F' H' σ' dd vs l S h1 h2 => w dd vs F' H' l ⟨S.fh, S.zh, S.zf⟩ (fin e S) h1 h2
  | bk ρ' => rw [hf] at w; exact w.elim
  | ct ρ' => rw [hf] at w; exact w.elim
  | err => rw [hf] at w; exact w.elim
end Nu
namespace Nu
open PySem PySem.Spec PyProof.Rows L2
variable {C : Cq} {Z Z' F F' H H' : Hp} {σ σ' : St} {ρ ρ' : Rho} {X : Cx} {K : PySem.W.Frag} {P : Nat → Addr}

/-- an argument that is shared at once -/
def vS (f : Rho → R (D × Bool)) (g : Rho → R (List Av)) (ρ : Rho) : R (List Av) := (f ρ).bind fun a ρ1 => (g ρ1).bind fun as ρ2 => .ok (.val a.1 :: as) ρ2
theorem dv_s {e : Expr} {es : List Expr} {f : Rho → R (D × Bool)} {g : Rho → R (List Av)} (h : PE X e (tE C f)) (h2 : PA X es (tV C g)) (hs : starEach (e :: es) X.env = (false, eval e X.env) :: starEach es X.env := by rfl) : PA X (e :: es) (tV C (vS f g)) :=
  PA.imp (pa_cons h h2 hs) fun σ H Q ⟨Z, F, ρ, S, m⟩ => tG.step S m fun a ρ1 F1 H1 v l1 S1 r1 m1 => by
    obtain ⟨F2, l2, S2, w⟩ := RvR.share S1 r1
    exact tG.step S2 (At.mono l2 m1) fun as ρ2 F3 H2 vs l3 S3 r3 m2 => m2 F3 H2 (v :: vs) (Evl.Ex.refl F3) S3 (.val (w.mono l3) r3)
/-- the arguments' contents, and the lent slots -/
def argsOf (ρ : Rho) : List Bool → List Av → Option (List D × List (Option Nat))
  | [], [] => some ([], [])
  | false :: ms, .val d :: as => (argsOf ρ ms as).map fun p => (d :: p.1, p.2)
  | true :: ms, .tmp d :: as => (argsOf ρ ms as).map fun p => (d :: p.1, none :: p.2)
  | true :: ms, .var i :: as => match ρ[i]? with
    | some (some (d, k)) => if k = .sh then none else (argsOf ρ ms as).bind fun p => if some i ∈ p.2 then none else some (d :: p.1, some i :: p.2)
    | _ => none
  | _, _ => none
def put2 (i : Nat) (d : D) (ρ : Rho) : Rho := match ρ[i]? with
  | some (some (_, k)) => ρ.set i (some (d, k))
  | _ => ρ
def setOuts : List (Option Nat) → List D → Rho → Rho
  | some i :: L, d :: ds, ρ => setOuts L ds (put2 i d ρ)
  | none :: L, _ :: ds, ρ => setOuts L ds ρ
  | _, _, ρ => ρ
/-- the lent ones: by a slot, or fresh -/
inductive LentR (σ : St) (ρ : Rho) : List (Option Nat) → List Addr → Prop
  | nil : LentR σ ρ [] []
  | some {i : Nat} {a : Addr} {d : D} {k : Kd} {L : List (Option Nat)} {as : List Addr} : σ[i]? = some (some (.ref a)) → ρ[i]? = some (some (d, k)) → k ≠ .sh → some i ∉ L → LentR σ ρ L as → LentR σ ρ (some i :: L) (a :: as)
  | none {a : Addr} {L : List (Option Nat)} {as : List Addr} : Free σ ρ a → LentR σ ρ L as → LentR σ ρ (none :: L) (a :: as)
theorem tmps_cons {v : V} {vs : List V} {x : Av} {as : List Av} {b : Addr} (h : b ∈ tmps vs as) : b ∈ tmps (v :: vs) (x :: as) := by
  cases v <;> cases x <;> simp only [tmps, List.mem_cons] <;> first | exact h | exact .inr h
theorem own_of_slot {i : Nat} {d : D} {k : Kd} {v : V} (S : SR K P Z F σ ρ H) (h : ρ[i]? = some (some (d, k))) (hk : k ≠ .sh) (hv : σ[i]? = some (some v)) : ∃ a, v = .ref a ∧ Own K Z F H a d := by
  obtain ⟨v', hv', w⟩ := S.sl i d k h
  rw [hv] at hv'; cases hv'
  cases k with
  | sh => exact absurd rfl hk
  | ow => exact w
  | pin => exact w
theorem args_ok (S : SR K P Z F σ ρ H) : ∀ {ms : List Bool} {vs : List V} {as : List Av} {ds : List D} {L : List (Option Nat)}, Avs K Z F H σ ρ vs as → argsOf ρ ms as = some (ds, L) →
    (∀ Zc : Hp, (∀ a ∈ muA ms vs, Zc a = none) → ArgR K Zc F H ms vs ds) ∧ LentR σ ρ L (muA ms vs) ∧ (∀ a ∈ muA ms vs, F a = none ∧ Z a = none ∧ (∃ o, H a = some o) ∧ ((∃ j d k, some j ∈ L ∧ σ[j]? = some (some (.ref a)) ∧ ρ[j]? = some (some (d, k)) ∧ k ≠ Kd.sh) ∨ (a ∈ tmps vs as ∧ Free σ ρ a)))
  | [], _, _, ds, L, .nil, e => by
    simp only [argsOf, Option.some.injEq, Prod.mk.injEq] at e
    obtain ⟨rfl, rfl⟩ := e
    exact ⟨fun _ _ => .nil, .nil, fun a h => by simp [muA] at h⟩
  | _ :: _, _, _, ds, L, .nil, e => by simp [argsOf] at e
  | [], _, _, _, _, .val _ _, e => by simp [argsOf] at e
  | [], _, _, _, _, .var _ _, e => by simp [argsOf] at e
  | [], _, _, _, _, .tmp _ _ _ _, e => by simp [argsOf] at e
  | true :: _, _, _, _, _, .val _ _, e => by simp [argsOf] at e
  | false :: _, _, _, _, _, .var _ _, e => by simp [argsOf] at e
  | false :: _, _, _, _, _, .tmp _ _ _ _, e => by simp [argsOf] at e
  | false :: ms, _, _, ds, L, .val (v := v) (d := d) (vs := vs) (as := as) h r, e => by
    simp only [argsOf] at e
    cases q : argsOf ρ ms as with
    | none => rw [q] at e; cases e
    | some p =>
      obtain ⟨ds', L'⟩ := p
      rw [q] at e
      simp only [Option.map_some, Option.some.injEq, Prod.mk.injEq] at e
      obtain ⟨rfl, rfl⟩ := e
      obtain ⟨h1, h2, h3⟩ := args_ok S r q
      have em : muA (false :: ms) (v :: vs) = muA ms vs := by cases v <;> rfl
      rw [em]
      refine ⟨fun Zc hz => .sh h (h1 Zc hz), h2, fun a ha => ?_⟩
      obtain ⟨a1, a2, a3, a4⟩ := h3 a ha
      exact ⟨a1, a2, a3, a4.imp id fun ⟨x, y⟩ => ⟨tmps_cons x, y⟩⟩
  | true :: ms, _, _, ds, L, .tmp (a := a) (d := d) (vs := vs) (as := as) w fr nt r, e => by
    simp only [argsOf] at e
    cases q : argsOf ρ ms as with
    | none => rw [q] at e; cases e
    | some p =>
      obtain ⟨ds', L'⟩ := p
      rw [q] at e
      simp only [Option.map_some, Option.some.injEq, Prod.mk.injEq] at e
      obtain ⟨rfl, rfl⟩ := e
      obtain ⟨h1, h2, h3⟩ := args_ok S r q
      have nin : a ∉ muA ms vs := fun hm => by
        obtain ⟨_, _, _, z⟩ := h3 a hm
        rcases z with ⟨j, d', k, _, hs, hr, hk⟩ | ⟨ht, _⟩
        · exact fr j d' k hr hk hs
        · exact nt ht
      refine ⟨fun Zc hz => .mu ⟨w.nf, hz a (by simp [muA]), w.at_⟩ nin (h1 Zc fun b hb => hz b (by simp [muA, hb])), .none fr h2, fun b hb => ?_⟩
      simp only [muA, List.mem_cons] at hb
      rcases hb with rfl | hb
      · exact ⟨w.nf, w.nz, w.obj_at, .inr ⟨by simp [tmps], fr⟩⟩
      · obtain ⟨a1, a2, a3, a4⟩ := h3 b hb
        refine ⟨a1, a2, a3, ?_⟩
        rcases a4 with ⟨j, d', k, hj, hs⟩ | ⟨x, y⟩
        · exact .inl ⟨j, d', k, List.mem_cons_of_mem _ hj, hs⟩
        · exact .inr ⟨tmps_cons x, y⟩
  | true :: ms, _, _, ds, L, .var (v := v) (i := i) (vs := vs) (as := as) hv r, e => by
    simp only [argsOf] at e
    cases q0 : ρ[i]? with
    | none => rw [q0] at e; cases e
    | some s =>
      cases s with
      | none => rw [q0] at e; cases e
      | some p0 =>
        obtain ⟨d, k⟩ := p0
        rw [q0] at e
        simp only at e
        by_cases hk : k = .sh
        · rw [if_pos hk] at e; cases e
        · rw [if_neg hk] at e
          cases q : argsOf ρ ms as with
          | none => rw [q] at e; cases e
          | some p =>
            obtain ⟨ds', L'⟩ := p
            rw [q] at e
            simp only [Option.bind_some] at e
            by_cases hi : some i ∈ L'
            · rw [if_pos hi] at e; cases e
            · rw [if_neg hi] at e
              simp only [Option.some.injEq, Prod.mk.injEq] at e
              obtain ⟨rfl, rfl⟩ := e
              obtain ⟨h1, h2, h3⟩ := args_ok S r q
              obtain ⟨a, rfl, w⟩ := own_of_slot S q0 hk hv
              have nin : a ∉ muA ms vs := fun hm => by
                obtain ⟨_, _, _, z⟩ := h3 a hm
                rcases z with ⟨j, d', k', hj, hs, hr, hk'⟩ | ⟨_, fr⟩
                · have hij : i ≠ j := fun z => by subst z; exact hi hj
                  exact S.ap i j d d' k k' a hij q0 hr hk hk' hv hs
                · exact fr i d k q0 hk hv
              refine ⟨fun Zc hz => .mu ⟨w.nf, hz a (by simp [muA]), w.at_⟩ nin (h1 Zc fun b hb => hz b (by simp [muA, hb])), .some hv q0 hk hi h2, fun b hb => ?_⟩
              simp only [muA, List.mem_cons] at hb
              rcases hb with rfl | hb
              · exact ⟨w.nf, w.nz, w.obj_at, .inl ⟨i, d, k, by simp, hv, q0, hk⟩⟩
              · obtain ⟨a1, a2, a3, a4⟩ := h3 b hb
                refine ⟨a1, a2, a3, ?_⟩
                rcases a4 with ⟨j, d', k', hj, hs⟩ | ⟨x, y⟩
                · exact .inl ⟨j, d', k', List.mem_cons_of_mem _ hj, hs⟩
                · exact .inr ⟨tmps_cons x, y⟩
/-- what stands in the slots behind a call -/
theorem put2_get {i j : Nat} {d e : D} {k : Kd} (h : (put2 i d ρ)[j]? = some (some (e, k))) : (i = j ∧ e = d ∧ ∃ d', ρ[i]? = some (some (d', k))) ∨ (i ≠ j ∧ ρ[j]? = some (some (e, k))) ∨ (i = j ∧ ρ[j]? = some (some (e, k)) ∧ ∀ d' k', ρ[i]? ≠ some (some (d', k'))) := by
  unfold put2 at h
  cases q : ρ[i]? with
  | none => rw [q] at h; by_cases hij : i = j; exact .inr (.inr ⟨hij, h, fun _ _ z => by cases z⟩); exact .inr (.inl ⟨hij, h⟩)
  | some s =>
    cases s with
    | none => rw [q] at h; by_cases hij : i = j; exact .inr (.inr ⟨hij, h, fun _ _ z => by cases z⟩); exact .inr (.inl ⟨hij, h⟩)
    | some p =>
      obtain ⟨d', k'⟩ := p
      rw [q] at h
      simp only at h
      by_cases hij : i = j
      · subst hij
        rw [List.getElem?_set] at h
        simp only [if_true] at h
        split at h
        · cases h; exact .inl ⟨rfl, rfl, d', rfl⟩
        · cases h
      · rw [List.getElem?_set_ne hij] at h
        exact .inr (.inl ⟨hij, h⟩)
theorem put2_slot {i j : Nat} {d e : D} {k : Kd} (h : ρ[j]? = some (some (e, k))) : ∃ e', (put2 i d ρ)[j]? = some (some (e', k)) ∧ (i ≠ j → e' = e) := by
  unfold put2
  cases q : ρ[i]? with
  | none => exact ⟨e, h, fun _ => rfl⟩
  | some s =>
    cases s with
    | none => exact ⟨e, h, fun _ => rfl⟩
    | some p =>
      obtain ⟨d', k'⟩ := p
      simp only
      by_cases hij : i = j
      · subst hij
        rw [q] at h; cases h
        refine ⟨d, ?_, fun z => absurd rfl z⟩
        rw [List.getElem?_set]
        simp only [if_true]
        rw [if_pos (List.getElem?_eq_some_iff.mp q).1]
      · exact ⟨e, by rw [List.getElem?_set_ne hij]; exact h, fun _ => rfl⟩
theorem put2_length (i : Nat) (d : D) (ρ : Rho) : (put2 i d ρ).length = ρ.length := by
  unfold put2
  split
  · rw [List.length_set]
  · rfl
theorem setOuts_length : ∀ (L : List (Option Nat)) (ds : List D) (ρ : Rho), (setOuts L ds ρ).length = ρ.length
  | some i :: L, d :: ds, ρ => by simp only [setOuts]; rw [setOuts_length L ds, put2_length]
  | none :: L, _ :: ds, ρ => by simp only [setOuts]; rw [setOuts_length L ds]
  | [], _, ρ => by simp [setOuts]
  | some _ :: _, [], ρ => by simp [setOuts]
  | none :: _, [], ρ => by simp [setOuts]
theorem LentR.put {i : Nat} {d : D} : ∀ {L : List (Option Nat)} {as : List Addr}, LentR σ ρ L as → LentR σ (put2 i d ρ) L as
  | _, _, .nil => .nil
  | _, _, .some h1 h2 h3 h4 r => by
    obtain ⟨e', q, _⟩ := put2_slot (i := i) (d := d) h2
    exact .some h1 q h3 h4 (LentR.put r)
  | _, _, .none f r => .none (fun j e k hj hk z => by
      rcases put2_get hj with ⟨rfl, _, d', q⟩ | ⟨_, q⟩ | ⟨_, q, _⟩
      · exact f _ d' k q hk z
      · exact f _ e k q hk z
      · exact f _ e k q hk z) (LentR.put r)
/-- a slot behind the call: lent, with its new content; or as before -/
theorem setOuts_get : ∀ {L : List (Option Nat)} {as : List Addr} {outs : List D} {ρ : Rho} {j : Nat} {e : D} {k : Kd}, LentR σ ρ L as → OutR K Z F H as outs → (setOuts L outs ρ)[j]? = some (some (e, k)) →
    (∃ a, σ[j]? = some (some (.ref a)) ∧ k ≠ .sh ∧ Own K Z F H a e ∧ a ∈ as) ∨ (some j ∉ L ∧ ρ[j]? = some (some (e, k)))
  | _, _, _, ρ, j, e, k, .nil, .nil, h => .inr ⟨by simp, by simpa [setOuts] using h⟩
  | _, _, _, ρ, j, e, k, .none f r, .cons w o, h => by
    rcases setOuts_get r o (by simpa [setOuts] using h) with ⟨a, h1, h2, h3, h4⟩ | ⟨h1, h2⟩
    · exact .inl ⟨a, h1, h2, h3, List.mem_cons_of_mem _ h4⟩
    · exact .inr ⟨by simp [h1], h2⟩
  | _, _, _, ρ, j, e, k, .some (i := i) (a := a) (L := L) hs hr hk hn r, .cons (d := d) (ds := ds) w o, h => by
    have h' : (setOuts L ds (put2 i d ρ))[j]? = some (some (e, k)) := by simpa [setOuts] using h
    rcases setOuts_get (r.put (i := i) (d := d)) o h' with ⟨b, h1, h2, h3, h4⟩ | ⟨h1, h2⟩
    · exact .inl ⟨b, h1, h2, h3, List.mem_cons_of_mem _ h4⟩
    · rcases put2_get h2 with ⟨rfl, rfl, d', q⟩ | ⟨hij, q⟩ | ⟨rfl, _, q⟩
      · rw [hr] at q; cases q
        exact .inl ⟨a, hs, hk, w, List.mem_cons_self⟩
      · refine .inr ⟨?_, q⟩
        simp only [List.mem_cons, not_or]
        exact ⟨fun z => hij (Option.some.inj z).symm, h1⟩
      · exact absurd hr (q _ _)
theorem setOuts_kind : ∀ {L : List (Option Nat)} {as : List Addr} {outs : List D} {ρ : Rho} {j : Nat} {e : D} {k : Kd}, LentR σ ρ L as → OutR K Z F H as outs → (setOuts L outs ρ)[j]? = some (some (e, k)) → ∃ e', ρ[j]? = some (some (e', k))
  | _, _, _, ρ, j, e, k, .nil, .nil, h => ⟨e, by simpa [setOuts] using h⟩
  | _, _, _, ρ, j, e, k, .none f r, .cons w o, h => setOuts_kind r o (by simpa [setOuts] using h)
  | _, _, _, ρ, j, e, k, .some (i := i) (L := L) hs hr hk hn r, .cons (d := d) (ds := ds) w o, h => by
    have h' : (setOuts L ds (put2 i d ρ))[j]? = some (some (e, k)) := by simpa [setOuts] using h
    obtain ⟨e', q⟩ := setOuts_kind (r.put (i := i) (d := d)) o h'
    rcases put2_get q with ⟨rfl, _, d', q⟩ | ⟨hij, q⟩ | ⟨rfl, q, _⟩
    · exact ⟨d', q⟩
    · exact ⟨e', q⟩
    · exact ⟨e', q⟩
theorem lent_mem : ∀ {L : List (Option Nat)} {as : List Addr} {j : Nat} {a : Addr}, LentR σ ρ L as → some j ∈ L → σ[j]? = some (some (.ref a)) → a ∈ as
  | _, _, _, _, .nil, h, _ => by cases h
  | _, _, j, a, .none _ r, h, hs => by
    rcases List.mem_cons.mp h with z | z
    · cases z
    · exact List.mem_cons_of_mem _ (lent_mem r z hs)
  | _, _, j, a, .some h1 _ _ _ r, h, hs => by
    rcases List.mem_cons.mp h with z | z
    · cases z
      rw [h1] at hs; cases hs
      exact List.mem_cons_self
    · exact List.mem_cons_of_mem _ (lent_mem r z hs)
/-- the call by what the def is worth -/
def callAt (ms : List Bool) (m : Mir) (as : List Av) (ρ : Rho) : R (D × Bool) :=
  match argsOf ρ ms as with
  | none => .err
  | some p => match m p.1 with
    | .ok d fr outs => .ok (d, fr) (setOuts p.2 outs ρ)
    | .exc c fs outs => .exc c fs (setOuts p.2 outs ρ)
    | .err => .err
/-- what is wanted of a call's end: the lent objects' contents too -/
def MrC (C : Cq) (Z F : Hp) (σ : St) (ρ : Rho) (L : List (Option Nat)) (as : List Addr) (Q : VK) (E : XK) : Mr → Prop
  | .ok d fr outs => ∀ v F' H', Le F F' → SR C.K C.P Z F' σ (setOuts L outs ρ) H' → OutR C.K Z F' H' as outs → RvR C.K Z F' H' σ (setOuts L outs ρ) v d fr → Q v H'
  | .exc c fs outs => ∀ dd vs F' H', Le F F' → SR C.K C.P Z F' σ (setOuts L outs ρ) H' → F' dd = some (.xd vs) → RelF C.K F' vs fs → E (.ref (He.ga C.K c)) (some dd) H'
  | .err => False
theorem OutR.less {as : List Addr} {outs : List D} (h : ∀ a ∈ as, Z' a = none) : OutR K Z F H as outs → OutR K Z' F H as outs
  | .nil => .nil
  | .cons w r => .cons ⟨w.nf, h _ List.mem_cons_self, w.at_⟩ (OutR.less (fun a ha => h a (List.mem_cons_of_mem _ ha)) r)
theorem call_core {ms : List Bool} {m : Mir} {vs : List V} {as : List Av} {Q : VK} {E : XK} {ds : List D} {L : List (Option Nat)} (S : SR C.K C.P Z F σ ρ H) (r : Avs C.K Z F H σ ρ vs as) (e : argsOf ρ ms as = some (ds, L)) (h : MrC C Z F σ ρ L (muA ms vs) Q E (m ds)) : spM C.K ms m vs H Q E := by
  obtain ⟨h1, h2, h3⟩ := args_ok S r e
  let Zc : Hp := fun b => if (F b).isSome = true ∨ b ∈ muA ms vs then none else H b
  have zcn : ∀ a ∈ muA ms vs, Zc a = none := fun a ha => by
    show (if (F a).isSome = true ∨ a ∈ muA ms vs then none else H a) = none
    rw [if_pos (.inr ha)]
  have zch : Le Zc H := fun b o q => by
    have q' : (if (F b).isSome = true ∨ b ∈ muA ms vs then none else H b) = some o := q
    split at q'
    · cases q'
    · exact q'
  have zcf : ∀ a o, Zc a = some o → F a = none := fun b o q => by
    have q' : (if (F b).isSome = true ∨ b ∈ muA ms vs then none else H b) = some o := q
    split at q'
    · cases q'
    · rename_i hn
      cases z : F b with
      | none => rfl
      | some u => exact absurd (.inl (by simp [z])) hn
  have zci : ∀ b o, H b = some o → F b = none → b ∉ muA ms vs → Zc b = some o := fun b o q nf nm => by
    show (if (F b).isSome = true ∨ b ∈ muA ms vs then none else H b) = some o
    rw [if_neg (by simp [nf, nm])]
    exact q
  have zz : ∀ b o, Z b = some o → Zc b = some o := fun b o q => by
    refine zci b o (S.zh b o q) (S.zf b o q) fun hm => ?_
    have := (h3 b hm).2.1
    rw [q] at this; cases this
  have back : ∀ {outs : List D} {F' H' : Hp}, Le F F' → Hps Zc F' H' → OutR C.K Zc F' H' (muA ms vs) outs → SR C.K C.P Z F' σ (setOuts L outs ρ) H' := fun {outs F' H'} l hp ho => by
    refine ⟨hp.fh, fun b o q => hp.zh b o (zz b o q), fun b o q => hp.zf b o (zz b o q), by rw [setOuts_length]; exact S.len, fun j d k q => ?_, fun i j d e k l a hij hi hj hk hl qi qj => ?_, fun j d q => ?_⟩
    · rcases setOuts_get h2 ho q with ⟨a, hs, hk, w, hm⟩ | ⟨hn, q'⟩
      · refine ⟨_, hs, ?_⟩
        have w' : Own C.K Z F' H' a d := ⟨w.nf, (h3 a hm).2.1, w.at_⟩
        cases k with
        | sh => exact absurd rfl hk
        | ow => exact ⟨a, rfl, w'⟩
        | pin => exact ⟨a, rfl, w'⟩
      · obtain ⟨v, hv, w⟩ := S.sl j d k q'
        refine ⟨v, hv, ?_⟩
        have own : ∀ a, k ≠ .sh → v = .ref a → Own C.K Z F H a d → Own C.K Z F' H' a d := fun a hk e wo => by
          subst e
          obtain ⟨o, ho⟩ := wo.obj_at
          have nm : a ∉ muA ms vs := fun hm => by
            rcases (h3 a hm).2.2.2 with ⟨i, d', k', hi, hs, hr, hk'⟩ | ⟨_, fr⟩
            · by_cases hij : i = j
              · subst hij; exact hn hi
              · exact S.ap i j d' d k' k a hij hr q' hk' hk hs hv
            · exact fr j d k q' hk hv
          have z := zci a o ho wo.nf nm
          exact ⟨hp.zf a o z, wo.nz, wo.at_.move l fun o' e' => by rw [ho] at e'; cases e'; exact hp.zh a o z⟩
        cases k with
        | sh => exact Rel.mono l w
        | ow => obtain ⟨a, e, w⟩ := w; exact ⟨a, e, own a (by decide) e w⟩
        | pin => obtain ⟨a, e, w⟩ := w; exact ⟨a, e, own a (by decide) e w⟩
    · obtain ⟨d', q1⟩ := setOuts_kind h2 ho hi
      obtain ⟨e', q2⟩ := setOuts_kind h2 ho hj
      exact S.ap i j d' e' k l a hij q1 q2 hk hl qi qj
    · obtain ⟨d', q1⟩ := setOuts_kind h2 ho q
      exact S.pn j d' q1
  refine ⟨Zc, F, ds, ⟨S.fh, zch, zcf⟩, h1 Zc zcn, ?_⟩
  cases hm : m ds with
  | err => rw [hm] at h; exact h.elim
  | exc c fs outs =>
    rw [hm] at h
    exact fun dd vs' F' H' l hp ho e1 e2 => h dd vs' F' H' l (back l hp ho) e1 e2
  | ok d fr outs =>
    rw [hm] at h
    intro v F' H' l hp ho res
    refine h v F' H' l (back l hp ho) (ho.less fun a ha => (h3 a ha).2.1) ?_
    cases fr with
    | false => exact res
    | true =>
      obtain ⟨a, rfl, w, nm⟩ := res
      refine ⟨a, rfl, ⟨w.nf, ?_, w.at_⟩, fun j d' k q hk hs => ?_⟩
      · cases z : Z a with
        | none => rfl
        | some o => have := w.nz; rw [zz a o z] at this; cases this
      · rcases setOuts_get h2 ho q with ⟨b, hs', _, _, hb⟩ | ⟨hn, q'⟩
        · rw [hs] at hs'; cases hs'
          exact nm hb
        · obtain ⟨b, e, w'⟩ := own_of_slot S q' hk hs
          cases e
          obtain ⟨o, ho'⟩ := w'.obj_at
          have := w.nz
          rw [zci a o ho' w'.nf nm] at this
          cases this
theorem call_ok {ms : List Bool} {m : Mir} {vs : List V} {as : List Av} {Q : VK} (S : SR C.K C.P Z F σ ρ H) (r : Avs C.K Z F H σ ρ vs as) (h : At C (relE C.K) Z F σ Q (callAt ms m as ρ)) : spM C.K ms m vs H Q (fun cls d H' => C.W cls d σ H') := by
  unfold callAt at h
  cases e : argsOf ρ ms as with
  | none => rw [e] at h; exact h.elim
  | some p =>
    obtain ⟨ds, L⟩ := p
    rw [e] at h
    simp only at h
    refine call_core S r e ?_
    cases hm : m ds with
    | err => rw [hm] at h; exact h.elim
    | exc c fs outs => rw [hm] at h; exact fun dd vs' F' H' l S' e1 e2 => h F' H' dd vs' l S' e1 e2
    | ok d fr outs => rw [hm] at h; exact fun v F' H' l S' _ rv => h F' H' v l S' rv
def sCall (ms : List Bool) (m : Mir) (fa : Rho → R (List Av)) (ρ : Rho) : R (D × Bool) := (fa ρ).bind fun as ρ1 => callAt ms m as ρ1
end Nu
namespace Nu
open PySem PySem.Spec PyProof.Rows L2
variable {C : Cq} {Z Z' F F' H H' : Hp} {σ σ' : St} {ρ ρ' : Rho} {X : Cx} {K : PySem.W.Frag} {P : Nat → Addr}

/-! ## room for a call, with no repr under way: what the kit's own Room does not tell -/
structure Room (k : Nat) (A : Around) : Prop extends L2.Room k A where
  gd : A.guards = some []
theorem Room.mono {j k : Nat} {A : Around} (r : Room k A) (h : j ≤ k) : Room j A := ⟨L2.Room.mono r.toRoom h, r.gd⟩
theorem Room.deeper {k : Nat} {A : Around} (r : Room (k + 1) A) (env : Env) : Room k (A.deeper env) := ⟨L2.Room.deeper r.toRoom env, r.gd⟩
theorem Room.in1 {k : Nat} {A : Around} (r : Room (k + 1) A) : Room k A.in1 := ⟨L2.Room.in1 r.toRoom, r.gd⟩
theorem mk_guards {A : Around} {C : Addr} {us : List Value} {kw : List (Str × Value)} (h : A.guards = some []) : (A.under (.builtin "type.__call__" ⟨.ref C :: us, kw⟩)).guards = some [] := by
  first
    | exact h
    | (simp only [Around.under, h]; rfl)
    | (simp [Around.under, Code.guards, Code.isGuard, guardIds, pushGuards, h])
theorem Room.make {k : Nat} {A : Around} (r : Room (k + 1) A) (C : Addr) (us : List Value) (kw : List (Str × Value)) : Room k (A.under (.builtin "type.__call__" ⟨.ref C :: us, kw⟩)) := ⟨L2.Room.make r.toRoom C us kw, mk_guards r.gd⟩
theorem Room.units0 {k : Nat} {A : Around} (r : Room k A) : A.units < cLine := L2.Room.units0 r.toRoom
structure Sub (X : Cx) (n : Nat) (A : Around) : Prop where
  room : Room n A
  fr : A.frames = X.A.frames
theorem Sub.in1 {n : Nat} {A : Around} (s : Sub X (n + 1) A) : Sub X n A.in1 := ⟨s.room.in1, s.fr⟩
/-- a def's promise, where no repr is under way -/
structure FnOk (P : Program) (w : World) (K : PySem.W.Frag) (mg : Str → Option Value) (base : Heap) (CX : CXT) (k : Nat) (f : Addr) (fd : FuncData) (ps : List Str) (sp : Sp) : Prop where
  cnt : ∀ vs H Q E, sp vs H Q E → vs.length = ps.length
  run : ∀ (A : Around) (outer : List Env) (s : Shared) (H : Hp) (args : Args) (us : List Value) (vs : List V) (Q : VK) (E : XK), Nu.Room k A → Env0 P w K mg base A outer s H → BindsTo s fd args (ps.zip us) → Vals vs us → sp vs H Q E → codeAny (model P w) A (.call (.ref f) args) (CR CX outer P w H s Q E) s
theorem FnOk.mono {Pg : Program} {w : World} {mg : Str → Option Value} {base : Heap} {CX : CXT} {i j : Nat} {f : Addr} {fd : FuncData} {ps : List Str} {sp : Sp} (G : Nu.FnOk Pg w K mg base CX i f fd ps sp) (h : i ≤ j) : Nu.FnOk Pg w K mg base CX j f fd ps sp :=
  ⟨G.cnt, fun A outer s H args us vs Q E r => G.run A outer s H args us vs Q E (r.mono h)⟩
theorem FnOk.imp {Pg : Program} {w : World} {mg : Str → Option Value} {base : Heap} {CX : CXT} {j : Nat} {f : Addr} {fd : FuncData} {ps : List Str} {sp sp' : Sp} (G : Nu.FnOk Pg w K mg base CX j f fd ps sp) (h : ∀ vs H Q E, sp' vs H Q E → sp vs H Q E) : Nu.FnOk Pg w K mg base CX j f fd ps sp' :=
  ⟨fun vs H Q E q => G.cnt vs H Q E (h vs H Q E q), fun A outer s H args us vs Q E r e b v q => G.run A outer s H args us vs Q E r e b v (h vs H Q E q)⟩
theorem FnOk.text {Pg : Program} {w : World} {mg : Str → Option Value} {base : Heap} {x qual : Str} {params : Arguments} {body : List Stmt} {scope : Scope} {dvs : List V} {kws : List (Str × V)} {f : Addr} {fd : FuncData} {CX : CXT} {N ps : List Str} {j : Nat} {sp : Sp} (Fd : FunD K x qual params body scope dvs kws f fd) (S : FnScope N ps scope)
    (hc : ∀ vs H Q E, sp vs H Q E → vs.length = ps.length) (hb : ∀ (c : Value) (A : Around) (outer : List Env) (s : Shared) (H : Hp) (vs : List V) (Q : VK) (E : XK), Nu.Room j (A.deeper (envOfC qual scope s.heap.objs.size f c)) → sp vs H Q E → ∃ t, PSs (cxOf CX Pg w K mg base N qual scope f c A outer s H E) body t ∧ t { nx := fun _ H' => Q .non H', rt := Q } (start N vs) H) :
    Nu.FnOk Pg w K mg base CX (j + 1) f fd ps sp := by
  obtain ⟨_, _, _, _, _, _, _, c, _, _, rfl, at_f, at_c, _, _⟩ := Fd.ex
  refine ⟨hc, fun A outer s H args us vs Q E room en bnd rel q => ?_⟩
  have old : ∀ b o, base.get? b = some o → s.heap.get? b = some o := fun b o z => (en.bs b o z).1
  have inK : K.In s.heap := en.mod.kin.keeps old
  have kinds : ∀ y ∈ ps.zip us, scope.names.lookup y.1 = some .local ∨ (scope.names.lookup y.1 = some .cell ∧ ((cellsFrom (s.heap.objs.size + 1) scope.names []).lookup y.1).isSome = true) := by
    rintro ⟨y, u⟩ hy
    exact (S.par y (List.of_mem_zip hy).1).imp id fun z => ⟨z, PySem.W.cellsFrom_some _ _ _ (.inl z)⟩
  refine codeAny_call_function (L2.Room.depth room.toRoom) (inK _ _ at_f) rfl S.co S.gen rfl (PySem.W.codeRec_of inK at_c) (bnd _ _ _ _ (wpAny_newFunctionEnv_cells S.kind kinds fun en' he s1 z => ?_))
  subst he
  refine ⟨(en.mod.nolimit.keeps old).keeps z.toInCall.keep, codeAny_func ?_⟩
  obtain ⟨t, T, hq⟩ := hb c A outer s H vs Q E (room.deeper _) q
  have I0 := inv_start (CX := CX) (E := E) S room.hd en (hc _ _ _ _ q) rel z
  refine wpAny_mono (T.run [] s1 (start N vs) H _ I0 hq) (fun fl s' g => ?_) fun _ _ g => g
  cases fl with
  | ret u => obtain ⟨v, σ1, H1, J, rv, q1⟩ := g; exact ⟨v, H1, J.os, J.bare, J.base, J.hok, rv, q1⟩
  | next => obtain ⟨σ1, H1, J, q1⟩ := g; exact ⟨.non, H1, J.os, J.bare, J.base, J.hok, rfl, q1⟩
  | brk => obtain ⟨_, _, _, q1⟩ := g; exact q1.elim
  | cont => obtain ⟨_, _, _, q1⟩ := g; exact q1.elim
/-! ## how a call's values come to the parameters -/
def tailV (zs : List V) : List (Nat ⊕ V) → List V
  | [] => []
  | .inl j :: r => zs.getD j .non :: tailV zs r
  | .inr v :: r => v :: tailV zs r
def tailD (ds : List D) : List (Nat ⊕ D) → Option (List D)
  | [] => some []
  | .inl j :: r => (ds[j]?).bind fun d => (tailD ds r).map (d :: ·)
  | .inr d :: r => (tailD ds r).map (d :: ·)
inductive TlR (K : PySem.W.Frag) : List (Nat ⊕ V) → List (Nat ⊕ D) → Prop
  | nil : TlR K [] []
  | arg {j : Nat} {r : List (Nat ⊕ V)} {r' : List (Nat ⊕ D)} : TlR K r r' → TlR K (.inl j :: r) (.inl j :: r')
  | dfl {v : V} {d : D} {r : List (Nat ⊕ V)} {r' : List (Nat ⊕ D)} : (∀ F, Rel K F v d) → TlR K r r' → TlR K (.inr v :: r) (.inr d :: r')
theorem tail_rels {zs : List V} {ds : List D} (h : Rels K F zs ds) : ∀ {tv : List (Nat ⊕ V)} {td : List (Nat ⊕ D)} {es : List D}, TlR K tv td → tailD ds td = some es → Rels K F (tailV zs tv) es
  | _, _, _, .nil, e => by simp only [tailD, Option.some.injEq] at e; subst e; exact .nil
  | _, _, es, .arg (j := j) (r' := r') t, e => by
    simp only [tailD] at e
    cases q : ds[j]? with
    | none => rw [q] at e; cases e
    | some d =>
      rw [q] at e
      cases q2 : tailD ds r' with
      | none => rw [q2] at e; cases e
      | some es' =>
        rw [q2] at e
        cases e
        obtain ⟨v, hv, w⟩ := h.get q
        have ev : zs.getD j .non = v := by rw [List.getD_eq_getElem?_getD, hv]; rfl
        exact .cons (by rw [ev]; exact w) (tail_rels h t q2)
  | _, _, es, .dfl (d := d) (r' := r') w t, e => by
    simp only [tailD] at e
    cases q2 : tailD ds r' with
    | none => rw [q2] at e; cases e
    | some es' => rw [q2] at e; cases e; exact .cons (w F) (tail_rels h t q2)
structure Bd (K : PySem.W.Frag) (fd : FuncData) (ps : List Str) (n : Nat) (ks : List Str) (tl : List (Nat ⊕ V)) : Prop where
  to : ∀ (s : Shared) (us ws : List Value) (zs : List V), K.In s.heap → us.length = n → ws.length = ks.length → Vals zs ws → ∃ ts, Vals (tailV zs tl) ts ∧ BindsTo s fd ⟨us, ks.zip ws⟩ (ps.zip (us ++ ts))
/-- a def that stands at f, called with n values and the keywords ks, is worth m of these and of tl -/
structure FnV (P : Program) (w : World) (K : PySem.W.Frag) (mg : Str → Option Value) (base : Heap) (k : Nat) (f : Addr) (n : Nat) (ks : List Str) (tl : List (Nat ⊕ D)) (ms : List Bool) (m : Mir) : Prop where
  ex : ∃ fd ps tv, FnOk P w K mg base (L2N.CX P w) k f fd ps (spM K ms m) ∧ Bd K fd ps n ks tv ∧ TlR K tv tl
theorem tmps_vals : ∀ {vs : List V} {as : List Av} {ws : List V} {es : List D}, vs.length = as.length → tmps (vs ++ ws) (as ++ es.map .val) = tmps vs as
  | [], [], [], [], _ => rfl
  | [], [], [], _ :: _, _ => rfl
  | [], [], w :: ws, [], _ => by cases w <;> rfl
  | [], [], w :: ws, e :: es, _ => by
    have := tmps_vals (vs := []) (as := []) (ws := ws) (es := es) rfl
    cases w <;> simpa [tmps] using this
  | v :: vs, a :: as, ws, es, h => by
    have := tmps_vals (vs := vs) (as := as) (ws := ws) (es := es) (by simpa using h)
    cases v <;> cases a <;> simp only [List.cons_append, tmps, this]
theorem Avs.len : ∀ {vs : List V} {as : List Av}, Avs K Z F H σ ρ vs as → vs.length = as.length
  | _, _, .nil => rfl
  | _, _, .val _ r => by simp [r.len]
  | _, _, .var _ r => by simp [r.len]
  | _, _, .tmp _ _ _ r => by simp [r.len]
theorem avs_vals : ∀ {ws : List V} {es : List D}, Rels K F ws es → Avs K Z F H σ ρ ws (es.map .val)
  | _, _, .nil => .nil
  | _, _, .cons h r => .val h (avs_vals r)
theorem Avs.more {ws : List V} {es : List D} (q : Rels K F ws es) : ∀ {vs : List V} {as : List Av}, Avs K Z F H σ ρ vs as → Avs K Z F H σ ρ (vs ++ ws) (as ++ es.map .val)
  | _, _, .nil => avs_vals q
  | _, _, .val h r => .val h (r.more q)
  | _, _, .var h r => .var h (r.more q)
  | _, _, .tmp (vs := vs) (as := as) w f n r => .tmp w f (by
      have e := tmps_vals (ws := ws) (es := es) r.len
      show _ ∉ tmps (vs ++ ws) (as ++ es.map .val)
      rw [e]; exact n) (r.more q)
/-- the end of a call's code -/
def CdR (X : Cx) (pins : List (Addr × Obj)) (σ : St) (Q : VK) (r : Result) (s' : Shared) : Prop := match r with
  | .ok (.ret v) => EP X pins σ Q v s'
  | .ok _ => False
  | .error e => X.xe e s'
/-- the callee runs: vs the positional values, zs the keywords' -/
theorem run_bd {pins : List (Addr × Obj)} {s : Shared} {Q : VK} {us ws : List Value} {vs zs : List V} {k : Nat} {f : Addr} {fd : FuncData} {ps ks : List Str} {n : Nat} {tv : List (Nat ⊕ V)} {sp : Sp} {E : XK} {A : Around} (G : FnOk X.prog X.w X.K X.mg X.base (L2N.CX X.prog X.w) k f fd ps sp) (hr : Room k X.A) (hb : Bd X.K fd ps n ks tv)
    (hx : PassesAt (L2N.CX X.prog X.w) X σ E) (I : Inv X pins σ H s) (r : Vals vs us) (rz : Vals zs ws) (l1 : vs.length = n) (l2 : zs.length = ks.length) (h : sp (vs ++ tailV zs tv) H Q E) : codeAny (model X.prog X.w) X.A (.call (.ref f) ⟨us, ks.zip ws⟩) (CdR X pins σ Q) s := by
  obtain ⟨ts, rt, hbt⟩ := hb.to s us ws zs I.kIn (r.length.symm.trans l1) (rz.length.symm.trans l2) rz
  refine codeAny_mono (G.run X.A X.stack s H ⟨us, ks.zip ws⟩ (us ++ ts) (vs ++ tailV zs tv) Q E hr I.env0 hbt (r.append rt) h) fun r s' hq => ?_
  cases r with
  | error e => exact hx pins H s e s' I hq
  | ok fl =>
    cases fl with
    | ret u => exact I.after hq
    | next => exact False.elim hq
    | brk => exact False.elim hq
    | cont => exact False.elim hq
/-- .. by what it is worth -/
def sRun (n : Nat) (tl : List (Nat ⊕ D)) (ms : List Bool) (m : Mir) (ds : List D) (as : List Av) (ρ : Rho) : R (D × Bool) :=
  if as.length = n then (match tailD ds tl with
    | some ts => callAt ms m (as ++ ts.map .val) ρ
    | none => .err) else .err
theorem run_fvC {pins : List (Addr × Obj)} {s : Shared} {Q : VK} {us ws : List Value} {vs zs : List V} {as : List Av} {ds : List D} {k : Nat} {f : Addr} {ks : List Str} {n : Nat} {tl : List (Nat ⊕ D)} {ms : List Bool} {m : Mir} (hk : X.K = C.K) (G : FnV X.prog X.w X.K X.mg X.base k f n ks tl ms m) (hr : Room k X.A) (tk : L2N.Takes X C.W)
    (I : Inv X pins σ H s) (S : SR C.K C.P Z F σ ρ H) (r : Vals vs us) (rz : Vals zs ws) (ra : Avs C.K Z F H σ ρ vs as) (rd : Rels C.K F zs ds) (l2 : zs.length = ks.length) (h : At C (relE C.K) Z F σ Q (sRun n tl ms m ds as ρ)) :
    codeAny (model X.prog X.w) X.A (.call (.ref f) ⟨us, ks.zip ws⟩) (CdR X pins σ Q) s := by
  obtain ⟨fd, ps, tv, G, hb, ht⟩ := G.ex
  unfold sRun at h
  by_cases hn : as.length = n
  · rw [if_pos hn] at h
    cases e : tailD ds tl with
    | none => rw [e] at h; exact h.elim
    | some ts =>
      rw [e] at h
      rw [hk] at ht
      have h2 : spM X.K ms m (vs ++ tailV zs tv) H Q (fun cls d H' => C.W cls d σ H') := by
        rw [hk]
        exact call_ok S (ra.more (tail_rels rd ht e)) h
      exact run_bd (A := X.A) G hr hb (L2N.passAt tk σ) I r rz (ra.len.trans hn) l2 h2
  · rw [if_neg hn] at h; exact h.elim
theorem run_fv {pins : List (Addr × Obj)} {s : Shared} {Q : VK} {us ws : List Value} {vs zs : List V} {as : List Av} {ds : List D} {k : Nat} {f : Addr} {ks : List Str} {n : Nat} {tl : List (Nat ⊕ D)} {ms : List Bool} {m : Mir} (hk : X.K = C.K) (G : FnV X.prog X.w X.K X.mg X.base k f n ks tl ms m) (hr : Room k X.A) (tk : L2N.Takes X C.W)
    (I : Inv X pins σ H s) (S : SR C.K C.P Z F σ ρ H) (r : Vals vs us) (rz : Vals zs ws) (ra : Avs C.K Z F H σ ρ vs as) (rd : Rels C.K F zs ds) (l2 : zs.length = ks.length) (h : At C (relE C.K) Z F σ Q (sRun n tl ms m ds as ρ)) :
    wpAny (model X.prog X.w) X.A (call (.ref f) us (ks.zip ws)) (EP X pins σ Q) X.xe s := wpAny_call (run_fvC hk G hr tk I S r rz ra rd l2 h)
section
variable {k : Nat} {f : Addr} {ks : List Str} {n : Nat} {tl : List (Nat ⊕ D)} {ms : List Bool} {m : Mir} {x : Str} {p pos apos : Pos} {e o : Expr} {es : List Expr} {kws : List Keyword} {fa : Rho → R (List Av)} {fk : Rho → R (List Opd)}
def sFnP (n : Nat) (tl : List (Nat ⊕ D)) (ms : List Bool) (m : Mir) (fa : Rho → R (List Av)) (ρ : Rho) : R (D × Bool) := (fa ρ).bind fun as ρ1 => sRun n tl ms m [] as ρ1
/-- f(e, ..) -/
theorem de_call (hk : X.K = C.K) (G : FnV X.prog X.w X.K X.mg X.base k f n [] tl ms m) (hr : Room k X.A) (tk : L2N.Takes X C.W) (hg : Gl X x) (hm : X.mg x = some (.ref f)) (hkp : PySem.W.keepIn X.K (.ref f) = true) (ha : PA X (e :: es) (tV C fa)) (hdb : (x == ("__debug__" : Str)) = false := by decide)
    (he : starEach (e :: es) X.env = (false, eval e X.env) :: starEach es X.env := by rfl) (hpl : (backTo pos (starEach es X.env)).any (·.1) = false := by rfl) : PE X (.Call (.Name x p) (e :: es) [] pos) (tE C (sFnP n tl ms m fa)) := by
  refine ⟨fun pins s σ H Q I ⟨Z, F, ρ, S, h⟩ => ?_⟩
  refine wpAny_Call_Name_kw (ld_glob I hg hm ?_ hdb)
  have h1 : tV C fa σ H (fun vs H1 => ∃ F1 ρ1 as, SR C.K C.P Z F1 σ ρ1 H1 ∧ Avs C.K Z F1 H1 σ ρ1 vs as ∧ At C (relE C.K) Z F1 σ Q (sRun n tl ms m [] as ρ1)) := tG.step S h fun as ρ1 F1 H1 vs l S1 r m1 => ⟨F1, ρ1, as, S1, r, m1⟩
  refine PySem.W.callWith_K (h₀ := X.base) I.ok.mod.kin hkp (thn (ha.run pos pins s σ H _ I h1) fun us s1 ⟨vs, H1, I1, r, F1, ρ1, as, S1, ra, m1⟩ => ⟨I1.kIn, ?_⟩) he hpl
  exact run_fv (ws := []) (zs := []) hk G hr tk I1 S1 r .nil ra .nil rfl m1
/-- f() -/
theorem de_call0 (hk : X.K = C.K) (G : FnV X.prog X.w X.K X.mg X.base k f n [] tl ms m) (hr : Room k X.A) (tk : L2N.Takes X C.W) (hg : Gl X x) (hm : X.mg x = some (.ref f)) (hkp : PySem.W.keepIn X.K (.ref f) = true) (hdb : (x == ("__debug__" : Str)) = false := by decide) : PE X (.Call (.Name x p) [] [] pos) (tE C (sRun n tl ms m [] [])) := by
  refine ⟨fun pins s σ H Q I ⟨Z, F, ρ, S, h⟩ => ?_⟩
  refine wpAny_Call_Name_kw (ld_glob I hg hm ?_ hdb)
  exact PySem.W.callWith_K0 I.kIn hkp (run_fv (us := []) (vs := []) (ws := []) (zs := []) hk G hr tk I S .nil .nil .nil .nil rfl h)
/-! ### keywords -/
theorem PK.imp {X : Cx} {e : List Keyword} {t t' : TA} (h : PK X e t) (w : ∀ σ H Q, t' σ H Q → t σ H Q) : PK X e t' := ⟨fun pos pins s σ H Q I z => h.run pos pins s σ H Q I (w σ H Q z)⟩
theorem dk_nil : PK X [] (tA C sNil) := PK.imp pk_nil fun σ H Q ⟨Z, F, ρ, S, m⟩ => m F H [] (Evl.Ex.refl F) S .nil
theorem dk_cons {nm : Option Str} {kpos : Pos} {f : Rho → R Opd} {g : Rho → R (List Opd)} (h : PE X e (tO C f)) (h2 : PK X kws (tA C g)) : PK X (⟨nm, e, kpos⟩ :: kws) (tA C (sCons f g)) :=
  PK.imp (pk_cons h h2) fun σ H Q ⟨Z, F, ρ, S, m⟩ => tG.step S m fun o ρ1 F1 H1 v l1 S1 r1 m1 => tG.step S1 m1 fun os ρ2 F2 H2 vs l2 S2 r2 m2 => m2 F2 H2 (v :: vs) (Evl.Ex.refl F2) S2 (.cons (relO.mono (Z := Z) (H := H2) (H' := H2) (ρ := ρ2) (ρ' := ρ2) (K := C.K) l2 r1) r2)
def noTmp : List Av → Bool
  | [] => true
  | .tmp _ :: _ => false
  | _ :: r => noTmp r
theorem Avs.later {F2 H2 : Hp} {ρ2 : Rho} (l : Le F F2) : ∀ {vs : List V} {as : List Av}, noTmp as = true → Avs K Z F H σ ρ vs as → Avs K Z F2 H2 σ ρ2 vs as
  | _, _, _, .nil => .nil
  | _, _, h, .val w r => .val (w.mono l) (Avs.later l (by simpa [noTmp] using h) r)
  | _, _, h, .var w r => .var w (Avs.later l (by simpa [noTmp] using h) r)
  | _, _, h, .tmp _ _ _ _ => by simp [noTmp] at h
def sKw (n nk : Nat) (tl : List (Nat ⊕ D)) (ms : List Bool) (m : Mir) (fk : Rho → R (List Opd)) (as : List Av) (ρ : Rho) : R (D × Bool) :=
  if noTmp as = true then (fk ρ).bind fun os ρ2 => (match vals os with
    | some ds => if ds.length = nk then sRun n tl ms m ds as ρ2 else .err
    | none => .err) else .err
def sFnK (n nk : Nat) (tl : List (Nat ⊕ D)) (ms : List Bool) (m : Mir) (fa : Rho → R (List Av)) (fk : Rho → R (List Opd)) (ρ : Rho) : R (D × Bool) := (fa ρ).bind fun as ρ1 => sKw n nk tl ms m fk as ρ1
/-- the keywords behind the arguments -/
theorem kw_run {pins : List (Addr × Obj)} {s : Shared} {Q : VK} {us : List Value} {vs : List V} {as : List Av} (hk : X.K = C.K) (G : FnV X.prog X.w X.K X.mg X.base k f n ks tl ms m) (hr : Room k X.A) (tk : L2N.Takes X C.W) (hkw : PK X kws (tA C fk)) (hks : (backToKw pos (keywordEach kws X.env)).filterMap (·.1) = ks)
    (I : Inv X pins σ H s) (S : SR C.K C.P Z F σ ρ H) (r : Vals vs us) (ra : Avs C.K Z F H σ ρ vs as) (h : At C (relE C.K) Z F σ Q (sKw n ks.length tl ms m fk as ρ)) :
    wpAny (model X.prog X.w) X.A (evalAll ((backToKw pos (keywordEach kws X.env)).map (·.2))) (fun ws s2 => X.K.In s2.heap ∧ wpAny (model X.prog X.w) X.A (call (.ref f) us (((backToKw pos (keywordEach kws X.env)).filterMap (·.1)).zip ws)) (EP X pins σ Q) X.xe s2) X.xe s := by
  unfold sKw at h
  by_cases hn : noTmp as = true
  · rw [if_pos hn] at h
    have h1 : tA C fk σ H (fun zs H2 => ∃ F2 ρ2 ds, Le F F2 ∧ SR C.K C.P Z F2 σ ρ2 H2 ∧ Rels C.K F2 zs ds ∧ zs.length = ks.length ∧ At C (relE C.K) Z F2 σ Q (sRun n tl ms m ds as ρ2)) := by
      refine tG.step S h fun os ρ1 F1 H1 zs l S1 r m1 => ?_
      cases e : vals os with
      | none => rw [e] at m1; exact m1.elim
      | some ds =>
        rw [e] at m1
        simp only at m1
        have rr := vals_rels r e
        by_cases hl : ds.length = ks.length
        · rw [if_pos hl] at m1; exact ⟨F1, ρ1, ds, l, S1, rr, rr.length.trans hl, m1⟩
        · rw [if_neg hl] at m1; exact m1.elim
    refine thn (hkw.run pos pins s σ H _ I h1) fun ws s2 ⟨zs, H2, I2, rz, F2, ρ2, ds, l, S2, rd, l2, m2⟩ => ⟨I2.kIn, ?_⟩
    rw [hks]
    exact run_fv hk G hr tk I2 S2 r rz (ra.later l hn) rd l2 m2
  · rw [if_neg hn] at h; exact h.elim
/-- f(e, .., k = v, ..) -/
theorem de_callK (hk : X.K = C.K) (G : FnV X.prog X.w X.K X.mg X.base k f n ks tl ms m) (hr : Room k X.A) (tk : L2N.Takes X C.W) (hg : Gl X x) (hm : X.mg x = some (.ref f)) (hkp : PySem.W.keepIn X.K (.ref f) = true) (ha : PA X (e :: es) (tV C fa)) (hkw : PK X kws (tA C fk))
    (hall : (backToKw pos (keywordEach kws X.env)).all (·.1.isSome) = true := by rfl) (hks : (backToKw pos (keywordEach kws X.env)).filterMap (·.1) = ks := by rfl) (hdb : (x == ("__debug__" : Str)) = false := by decide) (he : starEach (e :: es) X.env = (false, eval e X.env) :: starEach es X.env := by rfl)
    (hpl : ((backTo pos (starEach (e :: es) X.env)).any (·.1) || (backToKw pos (keywordEach kws X.env)).any (·.1.isNone)) = false := by rfl) : PE X (.Call (.Name x p) (e :: es) kws pos) (tE C (sFnK n ks.length tl ms m fa fk)) := by
  refine ⟨fun pins s σ H Q I ⟨Z, F, ρ, S, h⟩ => ?_⟩
  refine wpAny_Call_Name_kw (ld_glob I hg hm ?_ hdb)
  have h1 : tV C fa σ H (fun vs H1 => ∃ F1 ρ1 as, SR C.K C.P Z F1 σ ρ1 H1 ∧ Avs C.K Z F1 H1 σ ρ1 vs as ∧ At C (relE C.K) Z F1 σ Q (sKw n ks.length tl ms m fk as ρ1)) := tG.step S h fun as ρ1 F1 H1 vs l S1 r m1 => ⟨F1, ρ1, as, S1, r, m1⟩
  refine PySem.W.callWith_KW (h₀ := X.base) I.ok.mod.kin hkp hall (thn (ha.run pos pins s σ H _ I h1) fun us s1 ⟨vs, H1, I1, r, F1, ρ1, as, S1, ra, m1⟩ => ?_) hpl he
  exact kw_run (pos := pos) hk G hr tk hkw hks I1 S1 r ra m1
/-- f(k = v, ..) -/
theorem de_callK0 (hk : X.K = C.K) (G : FnV X.prog X.w X.K X.mg X.base k f n ks tl ms m) (hr : Room k X.A) (tk : L2N.Takes X C.W) (hg : Gl X x) (hm : X.mg x = some (.ref f)) (hkp : PySem.W.keepIn X.K (.ref f) = true) (hkw : PK X kws (tA C fk))
    (hall : (backToKw pos (keywordEach kws X.env)).all (·.1.isSome) = true := by rfl) (hks : (backToKw pos (keywordEach kws X.env)).filterMap (·.1) = ks := by rfl) (hdb : (x == ("__debug__" : Str)) = false := by decide)
    (hpl : ((backTo pos (starEach [] X.env)).any (·.1) || (backToKw pos (keywordEach kws X.env)).any (·.1.isNone)) = false := by rfl) : PE X (.Call (.Name x p) [] kws pos) (tE C (sKw n ks.length tl ms m fk [])) := by
  refine ⟨fun pins s σ H Q I ⟨Z, F, ρ, S, h⟩ => ?_⟩
  refine wpAny_Call_Name_kw (ld_glob I hg hm ?_ hdb)
  exact PySem.W.callWith_KW0 (h₀ := X.base) I.ok.mod.kin hkp hall (kw_run (pos := pos) hk G hr tk hkw hks I S .nil .nil h) hpl
end
end Nu
namespace Nu
open PySem PySem.Spec PyProof.Rows L2
variable {C : Cq} {Z Z' F F' H H' : Hp} {σ σ' : St} {ρ ρ' : Rho} {X : Cx} {K : PySem.W.Frag} {P : Nat → Addr}

/-! ## a def of the text -/
theorem fn_body {Pg : Program} {w : World} {mg : Str → Option Value} {base : Heap} {x qual : Str} {params : Arguments} {body : List Stmt} {scope : Scope} {dvs : List V} {kws : List (Str × V)} {f : Addr} {fd : FuncData} {N ps : List Str} {k : Nat} {ms : List Bool} {sem : Rho → Ss}
    (Fd : FunD K x qual params body scope dvs kws f fd) (S : FnScope N ps scope) (hl : ms.length = ps.length)
    (hbody : ∀ (cdv : Value) (A : Around) (outer : List Env) (s : Shared) (H : Hp) (vs : List V) (E : XK), Room k (A.deeper (envOfC qual scope s.heap.objs.size f cdv)) →
      PSs (cxOf (L2N.CX Pg w) Pg w K mg base N qual scope f cdv A outer s H E) body (tS ⟨K, pinA vs, fun cls d _ H => E cls d H⟩ sem)) : FnOk Pg w K mg base (L2N.CX Pg w) (k + 1) f fd ps (spM K ms (bodyM ms N.length sem)) :=
  FnOk.text Fd S (fun vs H Q E h => (spM_len h).trans hl) fun cdv A outer s H vs Q E hr ⟨Z, F, ds, hp, r, wm⟩ => ⟨_, hbody cdv A outer s H vs E hr, body_at hp r wm⟩
theorem FnOk.less {Pg : Program} {w : World} {mg : Str → Option Value} {base : Heap} {CX : CXT} {f : Addr} {fd : FuncData} {ps : List Str} {k : Nat} {ms : List Bool} {m m' : Mir} (G : FnOk Pg w K mg base CX k f fd ps (spM K ms m)) (h : Mle m' m) : FnOk Pg w K mg base CX k f fd ps (spM K ms m') := G.imp (spM_imp h)

/-! ## attributes -/
theorem RelF.put {f : Str} {y : V} {d : D} (h : Rel K F y d) : ∀ {vs : List (Str × V)} {fs : List (Str × D)}, RelF K F vs fs → RelF K F (putF f y vs) (putD f d fs)
  | _, _, .nil => .cons h .nil
  | _, _, .cons (n := n) w r => by
    unfold putF putD
    by_cases e : n = f
    · rw [if_pos e, if_pos e]; exact .cons h r
    · rw [if_neg e, if_neg e]; exact .cons w (RelF.put h r)
/-- what of the text the classes cs must have, that f is an attribute of their instances -/
def FldOk (K : PySem.W.Frag) (cs : List Str) (f : Str) : Prop := ∀ c ∈ cs, Cls K (He.ga K c) ∧ NoAttr K (He.ga K c) f
def getF (cs : List Str) (f : Str) : D → Option (D × Bool)
  | .obj c fs => if c ∈ cs then (fs.lookup f).map fun d => (d, false) else none
  | _ => none
def sFld (cs : List Str) (f : Str) (fo : Rho → R Opd) (ρ : Rho) : R (D × Bool) := (fo ρ).bind fun o ρ1 => R.of ((peek ρ1 o).bind (getF cs f)) ρ1
theorem de_fld {cs : List Str} {f : Str} {e : Expr} {fo : Rho → R Opd} {pos : Pos} (hk : X.K = C.K) (hf : FldOk C.K cs f) (h : PE X e (tO C fo)) (hb : attributeBase e f X.env (eval e X.env) = eval e X.env := by rfl) : PE X (.Attribute e f pos) (tE C (sFld cs f fo)) :=
  PE.imp (pe_fld h hb) fun σ H Q ⟨Z, F, ρ, S, m⟩ => tG.step S m fun o ρ1 F1 H1 v l S1 r m1 => by
    cases p : peek ρ1 o with
    | none => rw [p] at m1; exact m1.elim
    | some d =>
      rw [p] at m1
      cases d with
      | obj c fs =>
        have m2 : At C (relE C.K) Z F1 σ Q (R.of (if c ∈ cs then (fs.lookup f).map fun d => (d, false) else none) ρ1) := m1
        by_cases hc : c ∈ cs
        · rw [if_pos hc] at m2
          cases q : fs.lookup f with
          | none => rw [q] at m2; exact m2.elim
          | some d =>
            rw [q] at m2
            obtain ⟨a, dx, vs, rfl, ha, rf⟩ := (peek_rl S1 r p).obj S1.fh
            obtain ⟨u, hu, w⟩ := (rf.lookup (f := f)).1 d q
            rw [hk]
            exact ⟨a, _, dx, vs, u, rfl, ha, (hf c hc).1, (hf c hc).2, hu, m2 F1 H1 u (Evl.Ex.refl F1) S1 w⟩
        · rw [if_neg hc] at m2; exact m2.elim
      | _ => exact m1.elim
/-- x.f = e, x an owned name -/
def setF (cs : List Str) (i : Nat) (f : Str) (d : D) (ρ : Rho) : Option Rho :=
  match ρ[i]? with
  | some (some (.obj c fs, k)) => if k ≠ .sh ∧ c ∈ cs ∧ fs.length < 1000 then some (ρ.set i (some (.obj c (putD f d fs), k))) else none
  | _ => none
def sSetF (cs : List Str) (i : Nat) (f : Str) (fv : Rho → R (D × Bool)) (ρ : Rho) : Ss := Rx (fv ρ) fun a ρ1 => match setF cs i f a.1 ρ1 with
  | some ρ2 => .nx ρ2
  | none => .err
theorem ds_setF {cs : List Str} {i : Nat} {f : Str} {o value : Expr} {fv : Rho → R (D × Bool)} {pos pos' : Pos} (hk : X.K = C.K) (hf : FldOk C.K cs f) (ho : PE X o (tVar i)) (hv : PE X value (tE C fv)) (hs : swapsWith value (some (.Attribute o f pos')) pos.line X.env = pure false := by rfl) : PS X (.Assign [.Attribute o f pos'] value pos) (tS C (sSetF cs i f fv)) :=
  PS.imp (ps_fld ho hv hs) fun E σ H ⟨Z, F, ρ, S, m⟩ => tG.stepS S m fun a ρ1 F1 H1 v l S1 r m1 => by
    obtain ⟨F2, l2, S2, w⟩ := RvR.share S1 r
    cases e : setF cs i f a.1 ρ1 with
    | none => simp only [e] at m1; exact m1.elim
    | some ρ2 =>
      simp only [e] at m1
      unfold setF at e
      split at e
      · rename_i c fs k hi
        by_cases hc : k ≠ .sh ∧ c ∈ cs ∧ fs.length < 1000
        · rw [if_pos hc] at e
          cases e
          obtain ⟨hk', hcs, hl⟩ := hc
          obtain ⟨v', hv', _⟩ := S2.sl i _ _ hi
          obtain ⟨b, rfl, ow⟩ := own_of_slot S2 hi hk' hv'
          obtain ⟨dx, vs, ha, rf⟩ := ow.at_
          rw [hk]
          refine ⟨_, hv', b, _, dx, vs, rfl, ha, (hf c hcs).1, (hf c hcs).2, by rw [rf.length]; exact hl, ?_⟩
          exact m1 F2 _ σ l2 (S2.put hi hk' hv' ⟨dx, _, upd_same, rf.put w⟩)
        · rw [if_neg hc] at e; cases e
      · cases e
/-! ## methods -/
structure MI where
  tl : List (Nat ⊕ D)
  ms : List Bool
  m : Mir
def toAv : Opd → Av
  | .val d => .val d
  | .var i => .var i
/-- the classes of a table have the method -/
def MethOk (X : Cx) (k : Nat) (tab : Str → Option MI) (mn : Str) (n : Nat) (ks : List Str) : Prop := ∀ c mi, tab c = some mi → ∃ f, Cls X.K (He.ga X.K c) ∧ Meth X.K (He.ga X.K c) mn f ∧ FnV X.prog X.w X.K X.mg X.base k f (n + 1) ks mi.tl mi.ms mi.m
def mAt (tab : Str → Option MI) (mn : Str) : D → Option MI
  | .obj c fs => if (fs.lookup mn).isSome then none else tab c
  | _ => none
def sMeth (tab : Str → Option MI) (mn : Str) (n : Nat) (fo : Rho → R Opd) (fa : Rho → R (List Av)) (ρ : Rho) : R (D × Bool) :=
  (fo ρ).bind fun o ρ1 => match (peek ρ1 o).bind (mAt tab mn) with
    | some mi => (fa ρ1).bind fun as ρ2 => sRun (n + 1) mi.tl mi.ms mi.m [] (toAv o :: as) ρ2
    | none => .err
def sMethK (tab : Str → Option MI) (mn : Str) (n nk : Nat) (fo : Rho → R Opd) (fa : Rho → R (List Av)) (fk : Rho → R (List Opd)) (ρ : Rho) : R (D × Bool) :=
  (fo ρ).bind fun o ρ1 => match (peek ρ1 o).bind (mAt tab mn) with
    | some mi => (fa ρ1).bind fun as ρ2 => sKw (n + 1) nk mi.tl mi.ms mi.m fk (toAv o :: as) ρ2
    | none => .err
theorem meth_at {k : Nat} {tab : Str → Option MI} {mn : Str} {n : Nat} {ks : List Str} {o : Opd} {v : V} {mi : MI} (hk : X.K = C.K) (hm : MethOk X k tab mn n ks) (S : SR C.K C.P Z F σ ρ H) (r : relO C.K Z F H σ ρ v o) (e : (peek ρ o).bind (mAt tab mn) = some mi) :
    ∃ a c dx vs f, v = .ref a ∧ H a = some (.ins (He.ga X.K c) dx vs) ∧ vs.lookup mn = none ∧ Cls X.K (He.ga X.K c) ∧ Meth X.K (He.ga X.K c) mn f ∧ FnV X.prog X.w X.K X.mg X.base k f (n + 1) ks mi.tl mi.ms mi.m := by
  cases p : peek ρ o with
  | none => rw [p] at e; cases e
  | some d =>
    rw [p] at e
    cases d with
    | obj c fs =>
      have e' : (if (fs.lookup mn).isSome then none else tab c) = some mi := e
      split at e'
      · cases e'
      · rename_i hn
        obtain ⟨a, dx, vs, rfl, ha, rf⟩ := (peek_rl S r p).obj S.fh
        obtain ⟨f, h1, h2, h3⟩ := hm c mi e'
        refine ⟨a, c, dx, vs, f, rfl, by rw [hk]; exact ha, (rf.lookup (f := mn)).2 (by
          cases q : fs.lookup mn with
          | none => rfl
          | some _ => rw [q] at hn; exact absurd rfl hn), h1, h2, h3⟩
    | _ => cases e
theorem avs_cons {o : Opd} {v : V} {vs : List V} {as : List Av} {F2 H2 : Hp} {ρ2 : Rho} (l : Le F F2) (r : relO K Z F H σ ρ v o) (ra : Avs K Z F2 H2 σ ρ2 vs as) : Avs K Z F2 H2 σ ρ2 (v :: vs) (toAv o :: as) := by
  cases o with
  | val d => exact .val (Rel.mono l r) ra
  | var i => exact .var r ra
section
variable {k : Nat} {tab : Str → Option MI} {mn : Str} {n : Nat} {ks : List Str} {o e : Expr} {es : List Expr} {kws : List Keyword} {fo : Rho → R Opd} {fa : Rho → R (List Av)} {fk : Rho → R (List Opd)} {pos apos : Pos}
theorem de_meth {pl : Sem Bool} (hk : X.K = C.K) (hm : MethOk X k tab mn n []) (hr : Room k X.A) (tk : L2N.Takes X C.W) (ho : PE X o (tO C fo)) (ha : PA X (e :: es) (tV C fa))
    (hst : starEach (e :: es) X.env = (false, eval e X.env) :: starEach es X.env := by rfl) (hpl : (backTo pos (starEach es X.env)).any (·.1) = false := by rfl)
    (ht : eval (.Call (.Attribute o mn apos) (e :: es) [] pos) X.env = (do
      let ov ← eval o X.env
      standAt apos.atName
      let (f, first) ← holding [ov] (getMethod ov mn pl)
      callWith pos f first (backTo pos (starEach (e :: es) X.env)) (backToKw pos (keywordEach [] X.env))) := by rfl) :
    PE X (.Call (.Attribute o mn apos) (e :: es) [] pos) (tE C (sMeth tab mn n fo fa)) := by
  refine ⟨fun pins s σ H Q I ⟨Z, F, ρ, S, h⟩ => ?_⟩
  have h1 : tO C fo σ H (fun v H1 => ∃ F1 ρ1 o1, SR C.K C.P Z F1 σ ρ1 H1 ∧ relO C.K Z F1 H1 σ ρ1 v o1 ∧ At C (relE C.K) Z F1 σ Q (match (peek ρ1 o1).bind (mAt tab mn) with
    | some mi => (fa ρ1).bind fun as ρ2 => sRun (n + 1) mi.tl mi.ms mi.m [] (toAv o1 :: as) ρ2
    | none => .err)) := tG.step S h fun o1 ρ1 F1 H1 v l S1 r m1 => ⟨F1, ρ1, o1, S1, r, m1⟩
  refine PySem.W.methodCall_KW (pl := pl) (thn (ho.run pins s σ H _ I h1) fun u s1 ⟨x, H1, I1, rx, F1, ρ1, o1, S1, r1, m1⟩ => ?_) ht
  cases e1 : (peek ρ1 o1).bind (mAt tab mn) with
  | none => rw [e1] at m1; exact m1.elim
  | some mi =>
    rw [e1] at m1
    obtain ⟨a, c, dx, vs, f, rfl, ea, l, hc, hme, G⟩ := meth_at hk hm S1 r1 e1
    obtain rfl : u = Value.ref a := rx
    refine getmeth_ok I1 ea hc hme l ?_
    have h2 : tV C fa σ H1 (fun vs H2 => ∃ F2 ρ2 as, Le F1 F2 ∧ SR C.K C.P Z F2 σ ρ2 H2 ∧ Avs C.K Z F2 H2 σ ρ2 vs as ∧ At C (relE C.K) Z F2 σ Q (sRun (n + 1) mi.tl mi.ms mi.m [] (toAv o1 :: as) ρ2)) := tG.step S1 m1 fun as ρ2 F2 H2 vs l S2 r m2 => ⟨F2, ρ2, as, l, S2, r, m2⟩
    refine PySem.W.callWith_K (first := [.ref a]) (h₀ := X.base) I.ok.mod.kin hme.kp (thn (ha.run pos pins s1 σ H1 _ I1 h2) fun us s2 ⟨vs, H2, I2, r, F2, ρ2, as, l2, S2, ra, m2⟩ => ⟨I2.kIn, ?_⟩) hst hpl
    exact run_fv (us := .ref a :: us) (vs := .ref a :: vs) (ws := []) (zs := []) hk G hr tk I2 S2 (.cons rfl r) .nil (avs_cons l2 r1 ra) .nil rfl m2
theorem de_meth0 {pl : Sem Bool} (hk : X.K = C.K) (hm : MethOk X k tab mn n []) (hr : Room k X.A) (tk : L2N.Takes X C.W) (ho : PE X o (tO C fo))
    (ht : eval (.Call (.Attribute o mn apos) [] [] pos) X.env = (do
      let ov ← eval o X.env
      standAt apos.atName
      let (f, first) ← holding [ov] (getMethod ov mn pl)
      callWith pos f first (backTo pos (starEach [] X.env)) (backToKw pos (keywordEach [] X.env))) := by rfl) :
    PE X (.Call (.Attribute o mn apos) [] [] pos) (tE C (sMeth tab mn n fo vNil)) := by
  refine ⟨fun pins s σ H Q I ⟨Z, F, ρ, S, h⟩ => ?_⟩
  have h1 : tO C fo σ H (fun v H1 => ∃ F1 ρ1 o1, SR C.K C.P Z F1 σ ρ1 H1 ∧ relO C.K Z F1 H1 σ ρ1 v o1 ∧ At C (relE C.K) Z F1 σ Q (match (peek ρ1 o1).bind (mAt tab mn) with
    | some mi => (vNil ρ1).bind fun as ρ2 => sRun (n + 1) mi.tl mi.ms mi.m [] (toAv o1 :: as) ρ2
    | none => .err)) := tG.step S h fun o1 ρ1 F1 H1 v l S1 r m1 => ⟨F1, ρ1, o1, S1, r, m1⟩
  refine PySem.W.methodCall_KW (pl := pl) (thn (ho.run pins s σ H _ I h1) fun u s1 ⟨x, H1, I1, rx, F1, ρ1, o1, S1, r1, m1⟩ => ?_) ht
  cases e1 : (peek ρ1 o1).bind (mAt tab mn) with
  | none => rw [e1] at m1; exact m1.elim
  | some mi =>
    rw [e1] at m1
    obtain ⟨a, c, dx, vs, f, rfl, ea, l, hc, hme, G⟩ := meth_at hk hm S1 r1 e1
    obtain rfl : u = Value.ref a := rx
    refine getmeth_ok I1 ea hc hme l ?_
    exact PySem.W.callWith_K0 (first := [.ref a]) I1.kIn hme.kp (run_fv (us := [.ref a]) (vs := [.ref a]) (ws := []) (zs := []) hk G hr tk I1 S1 (.cons rfl .nil) .nil (avs_cons (Evl.Ex.refl F1) r1 .nil) .nil rfl m1)
theorem de_methK0 {pl : Sem Bool} (hk : X.K = C.K) (hm : MethOk X k tab mn n ks) (hr : Room k X.A) (tk : L2N.Takes X C.W) (ho : PE X o (tO C fo)) (hkw : PK X kws (tA C fk))
    (hall : (backToKw pos (keywordEach kws X.env)).all (·.1.isSome) = true := by rfl) (hks : (backToKw pos (keywordEach kws X.env)).filterMap (·.1) = ks := by rfl)
    (hpl : ((backTo pos (starEach [] X.env)).any (·.1) || (backToKw pos (keywordEach kws X.env)).any (·.1.isNone)) = false := by rfl)
    (ht : eval (.Call (.Attribute o mn apos) [] kws pos) X.env = (do
      let ov ← eval o X.env
      standAt apos.atName
      let (f, first) ← holding [ov] (getMethod ov mn pl)
      callWith pos f first (backTo pos (starEach [] X.env)) (backToKw pos (keywordEach kws X.env))) := by rfl) :
    PE X (.Call (.Attribute o mn apos) [] kws pos) (tE C (sMethK tab mn n ks.length fo vNil fk)) := by
  refine ⟨fun pins s σ H Q I ⟨Z, F, ρ, S, h⟩ => ?_⟩
  have h1 : tO C fo σ H (fun v H1 => ∃ F1 ρ1 o1, SR C.K C.P Z F1 σ ρ1 H1 ∧ relO C.K Z F1 H1 σ ρ1 v o1 ∧ At C (relE C.K) Z F1 σ Q (match (peek ρ1 o1).bind (mAt tab mn) with
    | some mi => (vNil ρ1).bind fun as ρ2 => sKw (n + 1) ks.length mi.tl mi.ms mi.m fk (toAv o1 :: as) ρ2
    | none => .err)) := tG.step S h fun o1 ρ1 F1 H1 v l S1 r m1 => ⟨F1, ρ1, o1, S1, r, m1⟩
  refine PySem.W.methodCall_KW (pl := pl) (thn (ho.run pins s σ H _ I h1) fun u s1 ⟨x, H1, I1, rx, F1, ρ1, o1, S1, r1, m1⟩ => ?_) ht
  cases e1 : (peek ρ1 o1).bind (mAt tab mn) with
  | none => rw [e1] at m1; exact m1.elim
  | some mi =>
    rw [e1] at m1
    obtain ⟨a, c, dx, vs, f, rfl, ea, l, hc, hme, G⟩ := meth_at hk hm S1 r1 e1
    obtain rfl : u = Value.ref a := rx
    refine getmeth_ok I1 ea hc hme l ?_
    exact PySem.W.callWith_KW0 (first := [.ref a]) (h₀ := X.base) I.ok.mod.kin hme.kp hall (kw_run (pos := pos) (us := [.ref a]) (vs := [.ref a]) hk G hr tk hkw hks I1 S1 (.cons rfl .nil) (avs_cons (Evl.Ex.refl F1) r1 .nil) m1) hpl
end
end Nu
namespace Nu
open PySem PySem.Spec PyProof.Rows L2
variable {C : Cq} {Z Z' F F' H H' : Hp} {σ σ' : St} {ρ ρ' : Rho} {X : Cx} {K : PySem.W.Frag} {P : Nat → Addr}

/-! ## a new instance -/
theorem Avs.grow (g : Grow F H F H') : ∀ {vs : List V} {as : List Av}, Avs K Z F H σ ρ vs as → Avs K Z F H' σ ρ vs as
  | _, _, .nil => .nil
  | _, _, .val h r => .val h (Avs.grow g r)
  | _, _, .var h r => .var h (Avs.grow g r)
  | _, _, .tmp w f n r => .tmp ⟨w.nf, w.nz, w.at_.move (Evl.Ex.refl F) fun o q => g.hh _ _ q⟩ f n (Avs.grow g r)
theorem Avs.there {a : Addr} : ∀ {vs : List V} {as : List Av}, Avs K Z F H σ ρ vs as → a ∈ tmps vs as → ∃ o, H a = some o
  | _, _, .nil, h => by simp [tmps] at h
  | v :: _, _, .val _ r, h => Avs.there r (by cases v <;> simpa [tmps] using h)
  | v :: _, _, .var _ r, h => Avs.there r (by cases v <;> simpa [tmps] using h)
  | _, _, .tmp w _ _ r, h => by
    simp only [tmps, List.mem_cons] at h
    rcases h with rfl | h
    · exact w.obj_at
    · exact Avs.there r h
theorem free_new {a : Addr} (S : SR K P Z F σ ρ H) (n : H a = none) : Free σ ρ a := fun i d k hi hk q => by
  obtain ⟨b, e, w⟩ := own_of_slot S hi hk q
  cases e
  obtain ⟨o, ho⟩ := w.obj_at
  rw [n] at ho; cases ho
theorem free_outs {L : List (Option Nat)} {as : List Addr} {outs : List D} {Z1 F1 H1 : Hp} {K1 : PySem.W.Frag} {a : Addr} (hl : LentR σ ρ L as) (ho : OutR K1 Z1 F1 H1 as outs) (f : Free σ ρ a) : Free σ (setOuts L outs ρ) a := fun i d k hi hk q => by
  obtain ⟨d', q'⟩ := setOuts_kind hl ho hi
  exact f i d' k q' hk q
/-- C(..) by what its __init__ is worth -/
def makeAt (c : Str) (ms : List Bool) (m : Mir) (as : List Av) (ρ : Rho) : R (D × Bool) :=
  match argsOf ρ (true :: ms) (.tmp (.obj c []) :: as) with
  | none => .err
  | some p => match m p.1 with
    | .ok .non false (o :: outs) => .ok (o, true) (setOuts p.2 (o :: outs) ρ)
    | .exc e fs outs => .exc e fs (setOuts p.2 outs ρ)
    | _ => .err
theorem make_ok {c : Str} {ms : List Bool} {m : Mir} {vs : List V} {as : List Av} {Q : VK} {x dx : Addr} (S : SR C.K C.P Z F σ ρ H) (r : Avs C.K Z F H σ ρ vs as) (nx : H x = none) (ndx : H dx = none) (hne : dx ≠ x) (h : At C (relE C.K) Z F σ Q (makeAt c ms m as ρ)) :
    spM C.K (true :: ms) m (.ref x :: vs) (upd (upd H dx (.own x)) x (.ins (He.ga C.K c) dx [])) (fun v H2 => v = .non ∧ Q (.ref x) H2) (fun cls d H' => C.W cls d σ H') := by
  unfold makeAt at h
  cases e : argsOf ρ (true :: ms) (.tmp (.obj c []) :: as) with
  | none => rw [e] at h; exact h.elim
  | some p =>
    obtain ⟨ds, L⟩ := p
    rw [e] at h
    simp only at h
    have g1 : Grow F H F (upd H dx (.own x)) := Grow.fresh S.fh ndx
    have nx' : (upd H dx (.own x)) x = none := by rw [upd_ne (Ne.symm hne)]; exact nx
    have g2 : Grow F (upd H dx (.own x)) F (upd (upd H dx (.own x)) x (.ins (He.ga C.K c) dx [])) := Grow.fresh g1.fh nx'
    have g := g1.trans g2
    have S2 := S.grow g
    have fx : Free σ ρ x := free_new S nx
    have r2 : Avs C.K Z F (upd (upd H dx (.own x)) x (.ins (He.ga C.K c) dx [])) σ ρ (.ref x :: vs) (.tmp (.obj c []) :: as) := by
      refine .tmp ⟨Evl.fresh_back S.fh nx, Evl.fresh_back S.zh nx, dx, [], upd_same, .nil⟩ fx (fun hm => ?_) (r.grow g)
      obtain ⟨o, ho⟩ := r.there hm
      rw [nx] at ho; cases ho
    have hlent := (args_ok S2 r2 e).2.1
    refine call_core S2 r2 e ?_
    cases hm : m ds with
    | err => rw [hm] at h; exact h.elim
    | exc c fs outs => rw [hm] at h; exact fun dd vs' F' H' l S' e1 e2 => h F' H' dd vs' l S' e1 e2
    | ok d fr outs =>
      rw [hm] at h
      cases d with
      | non =>
        cases fr with
        | true => exact h.elim
        | false =>
          cases outs with
          | nil => exact h.elim
          | cons o outs =>
            intro v F' H' l S' ho rv
            cases (show Rel C.K F' v .non from rv)
            refine ⟨rfl, h F' H' (.ref x) l S' ?_⟩
            cases ho with
            | cons w ho' => exact ⟨x, rfl, w, free_outs hlent (.cons w ho') fx⟩
      | _ => exact h.elim
/-- the class at x may be made by the __init__ that stands at f -/
structure MkV (X : Cx) (k : Nat) (c : Str) (n : Nat) (ks : List Str) (tl : List (Nat ⊕ D)) (ms : List Bool) (m : Mir) : Prop where
  ex : ∃ f, Mk X.K (He.ga X.K c) f ∧ FnV X.prog X.w X.K X.mg X.base k f (n + 1) ks tl (true :: ms) m
def sMk (c : Str) (n : Nat) (tl : List (Nat ⊕ D)) (ms : List Bool) (m : Mir) (ds : List D) (as : List Av) (ρ : Rho) : R (D × Bool) :=
  if as.length = n then (match tailD ds tl with
    | some ts => makeAt c ms m (as ++ ts.map .val) ρ
    | none => .err) else .err
theorem run_mk {pins : List (Addr × Obj)} {s : Shared} {Q : VK} {us ws : List Value} {vs zs : List V} {as : List Av} {ds : List D} {k : Nat} {c : Str} {ks : List Str} {n : Nat} {tl : List (Nat ⊕ D)} {ms : List Bool} {m : Mir} (hk : X.K = C.K) (G : MkV X k c n ks tl ms m) (hr : Room (k + 1) X.A) (tk : L2N.Takes X C.W)
    (I : Inv X pins σ H s) (S : SR C.K C.P Z F σ ρ H) (r : Vals vs us) (rz : Vals zs ws) (ra : Avs C.K Z F H σ ρ vs as) (rd : Rels C.K F zs ds) (l2 : zs.length = ks.length) (h : At C (relE C.K) Z F σ Q (sMk c n tl ms m ds as ρ)) :
    wpAny (model X.prog X.w) X.A (call (.ref (He.ga X.K c)) us (ks.zip ws)) (EP X pins σ Q) X.xe s := by
  obtain ⟨f, M, G⟩ := G.ex
  obtain ⟨fd, ps, tv, G, hb, ht⟩ := G.ex
  unfold sMk at h
  by_cases hn : as.length = n
  · rw [if_pos hn] at h
    cases e : tailD ds tl with
    | none => rw [e] at h; exact h.elim
    | some ts =>
      rw [e] at h
      rw [hk] at ht
      have hq := make_ok (x := s.heap.objs.size + 1) (dx := s.heap.objs.size) S (ra.more (tail_rels rd ht e)) (I.hok.fresh (Nat.le_succ _)) (I.hok.fresh (Nat.le_refl _)) (Nat.ne_of_lt (Nat.lt_succ_self _)) h
      rw [← hk] at hq
      have I2 := Inv.made (C := He.ga X.K c) I
      have r1 : Vals (V.ref (s.heap.objs.size + 1) :: vs) (Value.ref (s.heap.objs.size + 1) :: us) := .cons rfl r
      obtain ⟨ts', rt, hbt⟩ := hb.to { s with heap := (s.heap.push PySem.W.emptyDict).push (PySem.W.instObj (He.ga X.K c) s.heap.objs.size) } (Value.ref (s.heap.objs.size + 1) :: us) ws zs I2.kIn (r1.length.symm.trans (by rw [List.length_cons, ra.len, hn])) (rz.length.symm.trans l2) rz
      refine wpAny_call (make_map (f := f) I.kIn M.makes M.init (beq_iff_eq.mp M.fn) (codeAny_mono (G.run _ X.stack _ _ ⟨Value.ref (s.heap.objs.size + 1) :: us, ks.zip ws⟩ (Value.ref (s.heap.objs.size + 1) :: us ++ ts') (V.ref (s.heap.objs.size + 1) :: (vs ++ tailV zs tv)) _ _ (hr.make (He.ga X.K c) us (ks.zip ws))
        (I2.env0.make (He.ga X.K c) us (ks.zip ws)) hbt (r1.append rt) hq) fun r s' hq' => ?_))
      cases r with
      | error e => exact L2N.passAt tk σ pins _ _ e s' I2 hq'
      | ok fl =>
        cases fl with
        | ret u =>
          obtain ⟨v, H', I3, rv, ev, q3⟩ := I2.after hq'
          subst ev
          exact ⟨rv, ⟨V.ref (s.heap.objs.size + 1), H', I3, rfl, q3⟩⟩
        | next => exact False.elim hq'
        | brk => exact False.elim hq'
        | cont => exact False.elim hq'
  · rw [if_neg hn] at h; exact h.elim
section
variable {k : Nat} {c : Str} {ks : List Str} {n : Nat} {tl : List (Nat ⊕ D)} {ms : List Bool} {m : Mir} {x : Str} {p pos apos : Pos} {e o : Expr} {es : List Expr} {kws : List Keyword} {fa : Rho → R (List Av)} {fk : Rho → R (List Opd)}
def sMkP (c : Str) (n : Nat) (tl : List (Nat ⊕ D)) (ms : List Bool) (m : Mir) (fa : Rho → R (List Av)) (ρ : Rho) : R (D × Bool) := (fa ρ).bind fun as ρ1 => sMk c n tl ms m [] as ρ1
theorem MkV.kp (G : MkV X k c n ks tl ms m) : PySem.W.keepIn X.K (.ref (He.ga X.K c)) = true := let ⟨_, M, _⟩ := G.ex; M.kp
theorem de_make (hk : X.K = C.K) (G : MkV X k c n [] tl ms m) (hr : Room (k + 1) X.A) (tk : L2N.Takes X C.W) (hg : Gl X x) (hm : X.mg x = some (.ref (He.ga X.K c))) (ha : PA X (e :: es) (tV C fa)) (hdb : (x == ("__debug__" : Str)) = false := by decide)
    (he : starEach (e :: es) X.env = (false, eval e X.env) :: starEach es X.env := by rfl) (hpl : (backTo pos (starEach es X.env)).any (·.1) = false := by rfl) : PE X (.Call (.Name x p) (e :: es) [] pos) (tE C (sMkP c n tl ms m fa)) := by
  refine ⟨fun pins s σ H Q I ⟨Z, F, ρ, S, h⟩ => ?_⟩
  refine wpAny_Call_Name_kw (ld_glob I hg hm ?_ hdb)
  have h1 : tV C fa σ H (fun vs H1 => ∃ F1 ρ1 as, SR C.K C.P Z F1 σ ρ1 H1 ∧ Avs C.K Z F1 H1 σ ρ1 vs as ∧ At C (relE C.K) Z F1 σ Q (sMk c n tl ms m [] as ρ1)) := tG.step S h fun as ρ1 F1 H1 vs l S1 r m1 => ⟨F1, ρ1, as, S1, r, m1⟩
  refine PySem.W.callWith_K (h₀ := X.base) I.ok.mod.kin G.kp (thn (ha.run pos pins s σ H _ I h1) fun us s1 ⟨vs, H1, I1, r, F1, ρ1, as, S1, ra, m1⟩ => ⟨I1.kIn, ?_⟩) he hpl
  exact run_mk (ws := []) (zs := []) hk G hr tk I1 S1 r .nil ra .nil rfl m1
def sMkK (c : Str) (n nk : Nat) (tl : List (Nat ⊕ D)) (ms : List Bool) (m : Mir) (fa : Rho → R (List Av)) (fk : Rho → R (List Opd)) (ρ : Rho) : R (D × Bool) := (fa ρ).bind fun as ρ1 => if noTmp as = true then (fk ρ1).bind fun os ρ2 => (match vals os with
    | some ds => if ds.length = nk then sMk c n tl ms m ds as ρ2 else .err
    | none => .err) else .err
theorem de_makeK (hk : X.K = C.K) (G : MkV X k c n ks tl ms m) (hr : Room (k + 1) X.A) (tk : L2N.Takes X C.W) (hg : Gl X x) (hm : X.mg x = some (.ref (He.ga X.K c))) (ha : PA X (e :: es) (tV C fa)) (hkw : PK X kws (tA C fk))
    (hall : (backToKw pos (keywordEach kws X.env)).all (·.1.isSome) = true := by rfl) (hks : (backToKw pos (keywordEach kws X.env)).filterMap (·.1) = ks := by rfl) (hdb : (x == ("__debug__" : Str)) = false := by decide) (he : starEach (e :: es) X.env = (false, eval e X.env) :: starEach es X.env := by rfl)
    (hpl : ((backTo pos (starEach (e :: es) X.env)).any (·.1) || (backToKw pos (keywordEach kws X.env)).any (·.1.isNone)) = false := by rfl) : PE X (.Call (.Name x p) (e :: es) kws pos) (tE C (sMkK c n ks.length tl ms m fa fk)) := by
  refine ⟨fun pins s σ H Q I ⟨Z, F, ρ, S, h⟩ => ?_⟩
  refine wpAny_Call_Name_kw (ld_glob I hg hm ?_ hdb)
  have h1 : tV C fa σ H (fun vs H1 => ∃ F1 ρ1 as, SR C.K C.P Z F1 σ ρ1 H1 ∧ Avs C.K Z F1 H1 σ ρ1 vs as ∧ noTmp as = true ∧ At C (relE C.K) Z F1 σ Q ((fk ρ1).bind fun os ρ2 => (match vals os with
    | some ds => if ds.length = ks.length then sMk c n tl ms m ds as ρ2 else .err
    | none => .err))) := tG.step S h fun as ρ1 F1 H1 vs l S1 r m1 => by
      by_cases hn : noTmp as = true
      · rw [if_pos hn] at m1; exact ⟨F1, ρ1, as, S1, r, hn, m1⟩
      · rw [if_neg hn] at m1; exact m1.elim
  refine PySem.W.callWith_KW (h₀ := X.base) I.ok.mod.kin G.kp hall (thn (ha.run pos pins s σ H _ I h1) fun us s1 ⟨vs, H1, I1, r, F1, ρ1, as, S1, ra, hn, m1⟩ => ?_) hpl he
  have h2 : tA C fk σ H1 (fun zs H2 => ∃ F2 ρ2 ds, Le F1 F2 ∧ SR C.K C.P Z F2 σ ρ2 H2 ∧ Rels C.K F2 zs ds ∧ zs.length = ks.length ∧ At C (relE C.K) Z F2 σ Q (sMk c n tl ms m ds as ρ2)) := by
    refine tG.step S1 m1 fun os ρ1 F1 H1 zs l S1 r m1 => ?_
    cases e : vals os with
    | none => rw [e] at m1; exact m1.elim
    | some ds =>
      rw [e] at m1
      simp only at m1
      have rr := vals_rels r e
      by_cases hl : ds.length = ks.length
      · rw [if_pos hl] at m1; exact ⟨F1, ρ1, ds, l, S1, rr, rr.length.trans hl, m1⟩
      · rw [if_neg hl] at m1; exact m1.elim
  refine thn (hkw.run pos pins s1 σ H1 _ I1 h2) fun ws s2 ⟨zs, H2, I2, rz, F2, ρ2, ds, l, S2, rd, l2, m2⟩ => ⟨I2.kIn, ?_⟩
  rw [hks]
  exact run_mk hk G hr tk I2 S2 r rz (ra.later l hn) rd l2 m2
end
/-! ## an instance is called -/
/-- the classes of a table may be called -/
def CallOk (X : Cx) (k : Nat) (tab : Str → Option MI) (n : Nat) (ks : List Str) : Prop := ∀ c mi, tab c = some mi → ∃ f, StX.CallO X.K (He.ga X.K c) f ∧ FnV X.prog X.w X.K X.mg X.base k f (n + 1) ks mi.tl mi.ms mi.m
def cAt (tab : Str → Option MI) : D → Option MI
  | .obj c _ => tab c
  | _ => none
def isObjD : Option D → Bool
  | some (.obj _ _) => true
  | _ => false
def sInst (tab : Str → Option MI) (n : Nat) (fo : Rho → R Opd) (fa : Rho → R (List Av)) (ρ : Rho) : R (D × Bool) :=
  (fo ρ).bind fun o ρ1 => if isObjD (peek ρ1 o) = true then (fa ρ1).bind fun as ρ2 => match (peek ρ2 o).bind (cAt tab) with
    | some mi => sRun (n + 1) mi.tl mi.ms mi.m [] (toAv o :: as) ρ2
    | none => .err else .err
def instK (tab : Str → Option MI) (n nk : Nat) (o : Opd) (os : List Opd) (ρ : Rho) : R (D × Bool) :=
  match (peek ρ o).bind (cAt tab) with
  | some mi => (match vals os with
    | some ds => if ds.length = nk then sRun (n + 1) mi.tl mi.ms mi.m ds [toAv o] ρ else .err
    | none => .err)
  | none => .err
def sInstK (tab : Str → Option MI) (n nk : Nat) (fo : Rho → R Opd) (fk : Rho → R (List Opd)) (ρ : Rho) : R (D × Bool) :=
  (fo ρ).bind fun o ρ1 => if isObjD (peek ρ1 o) = true then (fk ρ1).bind fun os ρ2 => instK tab n nk o os ρ2 else .err
theorem inst_at {k : Nat} {tab : Str → Option MI} {n : Nat} {ks : List Str} {o : Opd} {v : V} {mi : MI} (hk : X.K = C.K) (hm : CallOk X k tab n ks) (S : SR C.K C.P Z F σ ρ H) (r : relO C.K Z F H σ ρ v o) (e : (peek ρ o).bind (cAt tab) = some mi) :
    ∃ a c f, v = .ref a ∧ StX.InsC X H a (He.ga X.K c) ∧ StX.CallO X.K (He.ga X.K c) f ∧ FnV X.prog X.w X.K X.mg X.base k f (n + 1) ks mi.tl mi.ms mi.m := by
  cases p : peek ρ o with
  | none => rw [p] at e; cases e
  | some d =>
    rw [p] at e
    cases d with
    | obj c fs =>
      obtain ⟨a, dx, vs, rfl, ha, rf⟩ := (peek_rl S r p).obj S.fh
      obtain ⟨f, h1, h2⟩ := hm c mi e
      exact ⟨a, c, f, rfl, .inr ⟨dx, vs, by rw [hk]; exact ha⟩, h1, h2⟩
    | _ => cases e
theorem run_inst {pins : List (Addr × Obj)} {s : Shared} {Q : VK} {us ws : List Value} {vs zs : List V} {as : List Av} {ds : List D} {k : Nat} {a f Cl : Addr} {ks : List Str} {n : Nat} {tl : List (Nat ⊕ D)} {ms : List Bool} {m : Mir} (hk : X.K = C.K) (c : StX.CallO X.K Cl f) (hi : StX.InsC X H a Cl) (G : FnV X.prog X.w X.K X.mg X.base k f n ks tl ms m) (hr : Room k X.A) (tk : L2N.Takes X C.W)
    (I : Inv X pins σ H s) (S : SR C.K C.P Z F σ ρ H) (r : Vals vs us) (rz : Vals zs ws) (ra : Avs C.K Z F H σ ρ (.ref a :: vs) as) (rd : Rels C.K F zs ds) (l2 : zs.length = ks.length) (h : At C (relE C.K) Z F σ Q (sRun n tl ms m ds as ρ)) :
    wpAny (model X.prog X.w) X.A (call (.ref a) us (ks.zip ws)) (EP X pins σ Q) X.xe s := by
  obtain ⟨ox, od, J, hd⟩ := StX.insC_at I hi
  exact wpAny_call (PySem.W.kco_code I.kIn J hd c.at_ c.fn c.fi (run_fvC (us := .ref a :: us) (vs := .ref a :: vs) hk G hr tk I S (.cons rfl r) rz ra rd l2 h))
theorem callO_ofK {M : Model} {A : Around} {E : Value → Shared → Prop} {s : Shared} {a : Addr} {pos : Pos} {Q : Value → Shared → Prop} {args : List (Bool × Sem Value)} {kws : List (Option Str × Sem Value)} (hplain : (args.any (·.1) || kws.any (·.1.isNone)) = false)
    (h : wpAny M A (evalArgs (.ref a) true args kws) (fun z s₁ => (∃ C ox od, PySem.W.InstAt s₁.heap a ox C od ∧ ox.data = .plain) ∧ wpAny M A (call (.ref a) ([] ++ z.pos) z.kw) Q E s₁) E s) : wpAny M A (callWith pos (.ref a) [] args kws) Q E s := by
  unfold callWith
  refine wpAny_bind (wpAny_holding (wpAny_mono h (fun z s₁ h₁ => wpAny_bind (wpAny_standAt ?_)) fun _ _ y => y))
  obtain ⟨⟨C, ox, od, J, hd⟩, h₁⟩ := h₁
  have L := PySem.W.kco_keeper (M := M) J hd
  simp only [hplain]
  refine wpAny_bind (L.here ?_)
  have tail : ∀ {t : Sem Value}, wpAny M A t Q E s₁ → wpAny M A (t >>= fun r => holding [r] point >>= fun _ => pure r) Q E s₁ :=
    fun ht => wpAny_bind (wpAny_mono ht (fun r s₂ hr => wpAny_bind (wpAny_holding (wpAny_point (wpAny_pure hr)))) fun _ _ y => y)
  exact tail (wpAny_operateT h₁)
section
variable {k : Nat} {tab : Str → Option MI} {n : Nat} {ks : List Str} {fe e : Expr} {es : List Expr} {kws : List Keyword} {fo : Rho → R Opd} {fa : Rho → R (List Av)} {fk : Rho → R (List Opd)} {pos apos : Pos}
theorem obj_ref {v : V} {o : Opd} (S : SR C.K C.P Z F σ ρ H) (r : relO C.K Z F H σ ρ v o) (h : isObjD (peek ρ o) = true) : ∃ a, v = .ref a := by
  cases p : peek ρ o with
  | none => rw [p] at h; cases h
  | some d =>
    cases d with
    | obj c fs =>
      obtain ⟨a, _, _, rfl, _, _⟩ := (peek_rl S r p).obj S.fh
      exact ⟨a, rfl⟩
    | _ => rw [p] at h; cases h
theorem de_inst (hk : X.K = C.K) (hm : CallOk X k tab n []) (hr : Room k X.A) (tk : L2N.Takes X C.W) (ho : PE X fe (tO C fo)) (ha : PA X (e :: es) (tV C fa))
    (ht : eval (.Call fe (e :: es) [] pos) X.env = (do callWith pos (← eval fe X.env) [] (backTo pos (starEach (e :: es) X.env)) (backToKw pos (keywordEach [] X.env))) := by rfl)
    (he : starEach (e :: es) X.env = (false, eval e X.env) :: starEach es X.env := by rfl) (hpl : (backTo pos (starEach es X.env)).any (·.1) = false := by rfl) : PE X (.Call fe (e :: es) [] pos) (tE C (sInst tab n fo fa)) := by
  refine ⟨fun pins s σ H Q I ⟨Z, F, ρ, S, h⟩ => ?_⟩
  have h1 : tO C fo σ H (fun v H1 => ∃ F1 ρ1 o1, isObjD (peek ρ1 o1) = true ∧ SR C.K C.P Z F1 σ ρ1 H1 ∧ relO C.K Z F1 H1 σ ρ1 v o1 ∧ At C (relE C.K) Z F1 σ Q ((fa ρ1).bind fun as ρ2 => match (peek ρ2 o1).bind (cAt tab) with
    | some mi => sRun (n + 1) mi.tl mi.ms mi.m [] (toAv o1 :: as) ρ2
    | none => .err)) := tG.step S h fun o1 ρ1 F1 H1 v l S1 r m1 => by
      by_cases ho : isObjD (peek ρ1 o1) = true
      · rw [if_pos ho] at m1; exact ⟨F1, ρ1, o1, ho, S1, r, m1⟩
      · rw [if_neg ho] at m1; exact m1.elim
  refine Call_ (thn (ho.run pins s σ H _ I h1) fun u s1 ⟨x, H1, I1, rx, F1, ρ1, o1, p1, S1, r1, m1⟩ => ?_) ht
  obtain ⟨a, rfl⟩ := obj_ref S1 r1 p1
  obtain rfl : u = Value.ref a := rx
  have h2 : tV C fa σ H1 (fun vs H2 => ∃ F2 ρ2 as, Le F1 F2 ∧ SR C.K C.P Z F2 σ ρ2 H2 ∧ Avs C.K Z F2 H2 σ ρ2 vs as ∧ At C (relE C.K) Z F2 σ Q (match (peek ρ2 o1).bind (cAt tab) with
    | some mi => sRun (n + 1) mi.tl mi.ms mi.m [] (toAv o1 :: as) ρ2
    | none => .err)) := tG.step S1 m1 fun as ρ2 F2 H2 vs l S2 r m2 => ⟨F2, ρ2, as, l, S2, r, m2⟩
  refine StX.callO_with (thn (ha.run pos pins s1 σ H1 _ I1 h2) fun us s2 ⟨vs, H2, I2, r, F2, ρ2, as, l2, S2, ra, m2⟩ => ?_) he hpl
  cases e1 : (peek ρ2 o1).bind (cAt tab) with
  | none => rw [e1] at m2; exact m2.elim
  | some mi =>
    rw [e1] at m2
    obtain ⟨b, c, f, eb, hi, hco, G⟩ := inst_at hk hm S2 (relO.mono l2 r1) e1
    cases eb
    obtain ⟨ox, od, J, hd⟩ := StX.insC_at I2 hi
    exact ⟨⟨_, ox, od, J, hd⟩, run_inst (ws := []) (zs := []) hk hco hi G hr tk I2 S2 r .nil (avs_cons l2 r1 ra) .nil rfl m2⟩
theorem de_instK (hk : X.K = C.K) (hm : CallOk X k tab n ks) (hr : Room k X.A) (tk : L2N.Takes X C.W) (ho : PE X fe (tO C fo)) (hkw : PK X kws (tA C fk))
    (ht : eval (.Call fe [] kws pos) X.env = (do callWith pos (← eval fe X.env) [] (backTo pos (starEach [] X.env)) (backToKw pos (keywordEach kws X.env))) := by rfl)
    (hall : (backToKw pos (keywordEach kws X.env)).all (·.1.isSome) = true := by rfl) (hks : (backToKw pos (keywordEach kws X.env)).filterMap (·.1) = ks := by rfl)
    (hpl : ((backTo pos (starEach [] X.env)).any (·.1) || (backToKw pos (keywordEach kws X.env)).any (·.1.isNone)) = false := by rfl) : PE X (.Call fe [] kws pos) (tE C (sInstK tab n ks.length fo fk)) := by
  refine ⟨fun pins s σ H Q I ⟨Z, F, ρ, S, h⟩ => ?_⟩
  have h1 : tO C fo σ H (fun v H1 => ∃ F1 ρ1 o1, isObjD (peek ρ1 o1) = true ∧ SR C.K C.P Z F1 σ ρ1 H1 ∧ relO C.K Z F1 H1 σ ρ1 v o1 ∧ At C (relE C.K) Z F1 σ Q ((fk ρ1).bind fun os ρ2 => instK tab n ks.length o1 os ρ2)) := tG.step S h fun o1 ρ1 F1 H1 v l S1 r m1 => by
      by_cases ho : isObjD (peek ρ1 o1) = true
      · rw [if_pos ho] at m1; exact ⟨F1, ρ1, o1, ho, S1, r, m1⟩
      · rw [if_neg ho] at m1; exact m1.elim
  rw [ht]
  refine wpAny_bind (thn (ho.run pins s σ H _ I h1) fun u s1 ⟨x, H1, I1, rx, F1, ρ1, o1, p1, S1, r1, m1⟩ => ?_)
  obtain ⟨a, rfl⟩ := obj_ref S1 r1 p1
  obtain rfl : u = Value.ref a := rx
  have h2 : tA C fk σ H1 (fun zs H2 => ∃ F2 ρ2 os, Le F1 F2 ∧ SR C.K C.P Z F2 σ ρ2 H2 ∧ Ops C.K F2 σ zs os ∧ At C (relE C.K) Z F2 σ Q (instK tab n ks.length o1 os ρ2)) := tG.step S1 m1 fun os ρ2 F2 H2 zs l S2 r m2 => ⟨F2, ρ2, os, l, S2, r, m2⟩
  refine callO_ofK hpl (evalArgs_kw2_nil hall (thn (hkw.run pos pins s1 σ H1 _ I1 h2) fun ws s2 ⟨zs, H2, I2, rz, F2, ρ2, os, l2, S2, ro, m2⟩ => ?_))
  unfold instK at m2
  cases e1 : (peek ρ2 o1).bind (cAt tab) with
  | none => rw [e1] at m2; exact m2.elim
  | some mi =>
    rw [e1] at m2
    cases e2 : vals os with
    | none => rw [e2] at m2; exact m2.elim
    | some ds =>
      rw [e2] at m2
      simp only at m2
      by_cases hl : ds.length = ks.length
      · rw [if_pos hl] at m2
        obtain ⟨b, c, f, eb, hi, hco, G⟩ := inst_at hk hm S2 (relO.mono l2 r1) e1
        cases eb
        obtain ⟨ox, od, J, hd⟩ := StX.insC_at I2 hi
        have rr := vals_rels ro e2
        refine ⟨⟨_, ox, od, J, hd⟩, ?_⟩
        simp only [hks]
        exact run_inst (us := []) (vs := []) hk hco hi G hr tk I2 S2 .nil rz (avs_cons l2 r1 .nil) rr (rr.length.trans hl) m2
      · rw [if_neg hl] at m2; exact m2.elim
end
end Nu
/-! ## len(set(text)) -/
namespace Nu
open PySem PySem.Spec PyProof.Rows L2
def fstep {α : Type} [DecidableEq α] (acc : List α) (c : α) : List α := if c ∈ acc then acc else acc ++ [c]
def nub {α : Type} [DecidableEq α] (x : List α) : List α := x.foldl fstep []
theorem fstep_length {α : Type} [DecidableEq α] (acc : List α) (c : α) : (fstep acc c).length ≤ acc.length + 1 := by
  unfold fstep; split <;> simp <;> omega
theorem nub_snoc {α : Type} [DecidableEq α] (x : List α) (c : α) : nub (x ++ [c]) = fstep (nub x) c := by
  unfold nub; rw [List.foldl_append]; rfl
theorem nub_le {α : Type} [DecidableEq α] : ∀ x : List α, (nub x).length ≤ x.length := by
  intro x
  have h : ∀ (l acc : List α), (l.foldl fstep acc).length ≤ acc.length + l.length := by
    intro l
    induction l with
    | nil => intro acc; simp
    | cons c l ih =>
      intro acc
      rw [List.foldl_cons]
      have := ih (fstep acc c)
      have := fstep_length acc c
      rw [List.length_cons]; omega
  have := h x []
  simpa [nub] using this
theorem fstep_map {α β : Type} [DecidableEq α] [DecidableEq β] {f : α → β} (hf : ∀ a b, f a = f b → a = b) (acc : List α) (c : α) : fstep (acc.map f) (f c) = (fstep acc c).map f := by
  unfold fstep
  by_cases h : c ∈ acc
  · rw [if_pos h, if_pos (List.mem_map_of_mem h)]
  · rw [if_neg h, if_neg, List.map_append]; rfl
    intro hm
    obtain ⟨a, ha, e⟩ := List.mem_map.mp hm
    rw [hf _ _ e] at ha; exact h ha
theorem nub_map {α β : Type} [DecidableEq α] [DecidableEq β] {f : α → β} (hf : ∀ a b, f a = f b → a = b) (x : List α) : nub (x.map f) = (nub x).map f := by
  have h : ∀ (l acc : List α), (l.map f).foldl fstep (acc.map f) = (l.foldl fstep acc).map f := by
    intro l
    induction l with
    | nil => intro acc; rfl
    | cons c l ih => intro acc; rw [List.map_cons, List.foldl_cons, List.foldl_cons, fstep_map hf, ih]
  exact h x []
theorem mem_nub {α : Type} [DecidableEq α] (x : List α) (c : α) : c ∈ nub x ↔ c ∈ x := by
  have h : ∀ (l acc : List α), c ∈ l.foldl fstep acc ↔ c ∈ acc ∨ c ∈ l := by
    intro l
    induction l with
    | nil => intro acc; simp
    | cons d l ih =>
      intro acc
      rw [List.foldl_cons, ih]
      unfold fstep
      split
      · rename_i hd
        constructor
        · rintro (h | h)
          · exact .inl h
          · exact .inr (List.mem_cons_of_mem _ h)
        · rintro (h | h)
          · exact .inl h
          · rcases List.mem_cons.mp h with rfl | h
            · exact .inl hd
            · exact .inr h
      · simp only [List.mem_append, List.mem_singleton, List.mem_cons]
        constructor
        · rintro ((h | h | h) | h)
          · exact .inl h
          · exact .inr (.inl h)
          · cases h
          · exact .inr (.inr h)
        · rintro (h | h | h)
          · exact .inl (.inl h)
          · exact .inl (.inr (.inl h))
          · exact .inr h
  simpa [nub] using h x []
theorem nub_nodup_eq {α : Type} [DecidableEq α] (x : List α) : (nub x).length = x.length ↔ x.Nodup := by
  have h : ∀ (l acc : List α), acc.Nodup → ((l.foldl fstep acc).length = acc.length + l.length ↔ (acc ++ l).Nodup) := by
    intro l
    induction l with
    | nil => intro acc h; simpa using h
    | cons c l ih =>
      intro acc ha
      rw [List.foldl_cons]
      by_cases hc : c ∈ acc
      · have e : fstep acc c = acc := by unfold fstep; rw [if_pos hc]
        rw [e]
        have hle : (l.foldl fstep acc).length ≤ acc.length + l.length := by
          have : ∀ (l acc : List α), (l.foldl fstep acc).length ≤ acc.length + l.length := by
            intro l
            induction l with
            | nil => intro acc; simp
            | cons c l ih =>
              intro acc
              rw [List.foldl_cons]
              have := ih (fstep acc c)
              have := fstep_length acc c
              rw [List.length_cons]; omega
          exact this l acc
        constructor
        · intro h; rw [List.length_cons] at h; omega
        · intro h
          exact absurd rfl ((List.nodup_append.mp h).2.2 c hc c List.mem_cons_self)
      · have e : fstep acc c = acc ++ [c] := by unfold fstep; rw [if_neg hc]
        have ha' : (acc ++ [c]).Nodup := List.nodup_append.mpr ⟨ha, by simp, fun a h1 b h2 => by
          rw [List.mem_singleton] at h2; subst h2; intro z; subst z; exact hc h1⟩
        have := ih (acc ++ [c]) ha'
        rw [e, List.append_assoc] at *
        rw [List.length_append, List.length_singleton] at this
        rw [List.length_cons, ← Nat.add_assoc, Nat.add_right_comm]
        simpa using this
  have := h x [] List.nodup_nil
  simpa [nub] using this
def chS (x : Str) (i : Nat) : Str := ⟨#[x.cps.getD i 0]⟩
def chs (x : Str) (i : Nat) : List Str := (List.range i).map (chS x)
end Nu
namespace Nu
open PySem PySem.Spec PyProof.Rows L2 SS
section
variable {prog : Program} {w : World} {A : Around} {R : Result → Shared → Prop} {I : Addr} {fp wr : List Addr} {G : Array GenState → Array GenState → Prop} {n : Nat} {P : Nat → Value → Prop} {St : Nat → Shared → Prop}
theorem set_loop (W : WalksS prog w A.in1 I fp wr G n P St) (S : Addr) (hSf : S ∉ fp) (x : Str) (hval : ∀ i v, P i v → ∃ t, v = .str (chS x i) t) (hb : n + 1 < scanBound) :
    ∀ (k i : Nat) (s : Shared), n - i = k → i ≤ n → St i s →
      s.heap.SetOf (PySem.strKind prog w) S (fun k' => decide (k' ∈ nub (chs x i))) (nub (chs x i)).length →
      (∀ s', Moved (S :: wr) G s s' → s'.heap.SetOf (PySem.strKind prog w) S (fun k' => decide (k' ∈ nub (chs x n))) (nub (chs x n)).length → R (.ok (.ret .none)) s') →
      codeAny (model prog w) A (.builtin "set.update.loop" ⟨[.ref S, .ref I], []⟩) R s := by
  have hSw : S ∉ wr := fun h => hSf (W.sub _ h)
  have hsub : ∀ b ∈ wr, b ∈ S :: wr := fun b hb => List.mem_cons_of_mem _ hb
  intro k
  induction k with
  | zero =>
    intro i s hk hi hst hS hR
    have hin : i = n := by omega
    subst hin
    refine codeAny_builtin PyProof.Rows.F.entry_set_update_loop ?_
    rw [Around.under_plainId PyProof.Rows.F.plain_set_update_loop _]
    show wpAny _ A.in1 (pyNext (.ref I) >>= _) _ _ s
    refine wpAny_bind (W.done s _ _ hst fun s' hm => ?_)
    show wpAny _ A.in1 (ret Value.none) _ _ s'
    exact wpAny_pure (hR s' (hm.mono hsub) (by
      obtain ⟨o, es, ep, t, ho, rest⟩ := hS
      exact ⟨o, es, ep, t, hm.heap S _ hSw ho, rest⟩))
  | succ k ih =>
    intro i s hk hi hst hS hR
    have hlt : i < n := by omega
    refine codeAny_builtin PyProof.Rows.F.entry_set_update_loop ?_
    rw [Around.under_plainId PyProof.Rows.F.plain_set_update_loop _]
    show wpAny _ A.in1 (pyNext (.ref I) >>= _) _ _ s
    refine wpAny_bind (W.item i s _ _ hlt hst fun v s' hP hst' hm => ?_)
    obtain ⟨t, rfl⟩ := hval i v hP
    have hS' : s'.heap.SetOf (PySem.strKind prog w) S (fun k' => decide (k' ∈ nub (chs x i))) (nub (chs x i)).length := by
      obtain ⟨o, es, ep, tb, ho, rest⟩ := hS
      exact ⟨o, es, ep, tb, hm.heap S _ hSw ho, rest⟩
    show wpAny _ A.in1 (holding [Value.str (chS x i) t] (setAdd S (.str (chS x i) t)) >>= _) _ _ s'
    refine wpAny_bind (wpAny_holding ?_)
    unfold setAdd
    refine wpAny_holding ?_
    refine wpAny_bind ((PySem.strKind prog w).pyHash (k := chS x i) (strKind_is _ _ _ _) ?_)
    have hroom : (nub (chs x i)).length + 1 < scanBound := by
      have := nub_le (chs x i)
      have e : (chs x i).length = i := by simp [chs]
      omega
    refine wpAny_setAddHashed_of (knd := PySem.strKind prog w) (s := { s' with toks := s'.toks + 1 }) (strKind_is _ _ _ _) rfl hS' hroom fun h' hsb hS2 => ?_
    have en : nub (chs x (i + 1)) = fstep (nub (chs x i)) (chS x i) := by
      unfold chs
      rw [List.range_succ, List.map_append, List.map_singleton, nub_snoc]
    have hSi : h'.SetOf (PySem.strKind prog w) S (fun k' => decide (k' ∈ nub (chs x (i + 1)))) (nub (chs x (i + 1))).length := by
      refine SetOf_congr hS2 (fun k' => ?_) ?_
      · rw [en]
        unfold fstep
        by_cases hm : chS x i ∈ nub (chs x i)
        · rw [if_pos hm]
          by_cases e : k' = chS x i
          · subst e; simp [hm]
          · simp [e]
        · rw [if_neg hm]
          by_cases e : k' = chS x i
          · subst e; simp
          · simp [e]
      · rw [en]
        unfold fstep
        by_cases hm : chS x i ∈ nub (chs x i)
        · simp [hm]
        · simp [hm]
    refine wpAny_pure ⟨plainId_quiet PyProof.Rows.F.plain_set_update_loop _, ih (i + 1) _ (by omega) hlt (W.frame _ s' _ _ hst' (Nat.le_succ _) fun b hb o e => ?_) hSi fun s'' hm'' hS'' => ?_⟩
    · rw [hsb.2 b (fun h : b = S => hSf (by rw [← h]; exact hb))]; exact e
    · refine hR s'' (Moved.trans W.gtrans ((hm.mono hsub).then_heap (Nat.le_succ _) fun b o hb e => ?_) hm'') hS''
      rw [hsb.2 b (fun h : b = S => hb (by rw [h]; exact List.mem_cons_self))]; exact e
end
theorem sub_str_set : isSubtype (.type "str") (.type "set") = pure false := by rw [isSubtype_type]; kernel_rfl
theorem sub_str_frozenset : isSubtype (.type "str") (.type "frozenset") = pure false := by rw [isSubtype_type]; kernel_rfl
section
variable {prog : Program} {w : World} {A : Around} {E : Value → Shared → Prop} {s : Shared}
set_option maxHeartbeats 3200000 in
theorem call_set_str {x : Str} {xt : Tok} {Q : Value → Shared → Prop} (hh : A.handled = none) (hb : x.cps.size + 1 < scanBound)
    (h : ∀ (h' : Heap) (tk : Nat), h'.SetOf (PySem.strKind prog w) s.heap.objs.size (fun k' => decide (k' ∈ nub (chs x x.cps.size))) (nub (chs x x.cps.size)).length →
      (∀ b o, b < s.heap.objs.size → s.heap.get? b = some o → h'.get? b = some o) → Q (.ref s.heap.objs.size) { s with heap := h', toks := tk }) :
    wpAny (model prog w) A (call (.type "set") [.str x xt]) Q E s := by
  obtain ⟨c, tl, hmro⟩ := PySem.F.called_set.mro
  have hmade := PySem.F.called_set.made
  have hsub := PySem.F.called_set.sub
  refine wpAny_call (codeAny_of_tree ?_)
  show wpAny _ _ (callAny (.type "set") _) _ _ _
  refine wpAny_pure ⟨Code.quiet_builtin _ (by decide +kernel), codeAny_builtin PySem.F.entry_type_call ?_⟩
  rw [Around.under_plain (weight_type_call_type "set" [.str x xt] []) rfl]
  have h1 := PySem.F.called_set.notType
  have h2 := PySem.F.called_set.canCreate
  have hct := PySem.F.typeCall_set_1 (.str x xt)
  repeat (any_goals (first | assumption | wp_step))

  refine codeAny_mono (code_set_new_1 (.str x xt) (E := E) (Q₁ := fun obj s₁ => ∃ led : Bool, obj = .ref s.heap.objs.size ∧ s₁ = { s with heap := s.heap.push { cls := .type "set", dict := none, data := .set #[] 0 (.fresh 0 0 led) } }) fun led => ⟨led, rfl, rfl⟩) fun r s₁ hr => ?_
  cases r with
  | error e => exact hr
  | ok fl =>
    cases fl with
    | ret obj =>
      obtain ⟨led, rfl, rfl⟩ := hr
      have hS : (s.heap.push { cls := .type "set", dict := none, data := .set #[] 0 (.fresh 0 0 led) }).get? s.heap.objs.size = some { cls := .type "set", dict := none, data := .set #[] 0 (.fresh 0 0 led) } := Heap.get?_push_size _ rfl
      have hT : Shared.TypeIs { s with heap := s.heap.push { cls := .type "set", dict := none, data := .set #[] 0 (.fresh 0 0 led) } } (.ref s.heap.objs.size) "set" := ⟨_, hS, rfl⟩
      have hli := PySem.F.called_set.init.lookup
      have hbi := PySem.F.called_set.init.bind (.ref s.heap.objs.size)
      repeat (any_goals (first | assumption | wp_step))

      refine codeAny_mono (codeAny_call_builtin (R := wants (fun r s₂ => r = .none ∧ ∃ h' tk, s₂ = { s with heap := h', toks := tk } ∧
          h'.SetOf (PySem.strKind prog w) s.heap.objs.size (fun k' => decide (k' ∈ nub (chs x x.cps.size))) (nub (chs x x.cps.size)).length ∧
          (∀ b o, b < s.heap.objs.size → s.heap.get? b = some o → h'.get? b = some o)) E) PySem.F.called_set.init.plain PySem.F.entry_set_init (check_set_init_1 hT ?_)) fun r₂ s₂ hr₂ => ?_
      · have hsls := sub_str_set
        have hslf := sub_str_frozenset
        have hne : (Value.type "str" == Value.type "dict") = false := by decide
        unfold Builtin.«set.__init__» noKeywords Builtin.Frozenset.updateFrom
        generalize hPI : pyIter = PI
        wp_walk
        subst hPI
        refine wpAny_pyIter_str fun o St W hst => ?_
        refine wpAny_bind (wpAny_runValue ?_)
        have hh3 : A.in1.in1.in1.handled = none := by simp [hh]
        have hSf : s.heap.objs.size ∉ [(s.heap.push { cls := .type "set", dict := none, data := .set #[] 0 (.fresh 0 0 led) }).objs.size] := by
          rw [Heap.size_push]; simp only [List.mem_singleton]
          exact Nat.ne_of_lt (Nat.lt_succ_self _)
        have hval : ∀ (i : Nat) (v : Value), SignAt x i v → ∃ t, v = .str (chS x i) t := fun i v ⟨c, u, hc, e⟩ => by
          refine ⟨u, ?_⟩
          rw [e]
          unfold chS
          rw [Array.getD_eq_getD_getElem?, hc]
          rfl
        have hS1 : ((s.heap.push { cls := .type "set", dict := none, data := .set #[] 0 (.fresh 0 0 led) }).push o).get? s.heap.objs.size = some { cls := .type "set", dict := none, data := .set #[] 0 (.fresh 0 0 led) } := Heap.get?_push_of_some _ hS
        refine set_loop ((W _ hh3).toS) s.heap.objs.size hSf x hval hb (x.cps.size - 0) 0 _ (by omega) (Nat.zero_le _) hst ?hS0 ?hR
        case hS0 =>
          exact PyProof.Rows.SetOf_congr ((PyProof.Rows.setObjOf_fresh (knd := PySem.strKind prog w) led).setOf hS1 (by unfold scanBound; omega)) (fun _ => rfl) rfl
        case hR =>
          intro s' hm hS'
          obtain ⟨h', g', d', tk', os'⟩ := s'
          have eg : g' = s.gens := hm.gens
          have ed : d' = s.drawn := hm.drawn
          have eo : os' = s.os := hm.os
          subst eg; subst ed; subst eo
          show wpAny _ _ _ _ _ _
          refine wpAny_pure ?_
          show wpAny _ _ (ret Value.none) _ _ _
          refine wpAny_pure ⟨rfl, h', tk', rfl, hS', fun b o' hb' e => ?_⟩
          have hb1 : b ≠ s.heap.objs.size := Nat.ne_of_lt hb'
          have hb2 : b ≠ (s.heap.push { cls := .type "set", dict := none, data := .set #[] 0 (.fresh 0 0 led) }).objs.size := by
            rw [Heap.size_push]; exact Nat.ne_of_lt (Nat.lt_succ_of_lt hb')
          exact hm.heap b o' (by simp only [List.mem_cons, List.mem_singleton, List.not_mem_nil, or_false, not_or]; exact ⟨hb1, hb2⟩) (Heap.get?_push_of_some _ (Heap.get?_push_of_some _ e))
      · cases r₂ with
        | error e => exact hr₂
        | ok fl₂ =>
          cases fl₂ with
          | ret r =>
            obtain ⟨rfl, h', tk, rfl, hS', hk'⟩ := hr₂
            repeat (any_goals (first | assumption | wp_step))
            exact h _ _ hS' hk'
          | _ => exact hr₂.elim
    | _ => exact hr.elim
end
end Nu
/-! ## enumerate of a tuple, of a text -/
namespace Nu
open PySem
open AutoSeq1 (wpAny_loadPart')
theorem meets_enum_T (l : Addr) (items : Array Value) (n : Nat) (dct : Option Addr) (sl : Array (Option Value)) :
    Meets (Builtin.«enumerate.__new__» ⟨[.type "enumerate", .ref l], []⟩) (fun _ R s => s.heap.get? l = some { cls := .type "tuple", dict := dct, data := .seq items n, slots := sl } ∧
      R (.ok (.ret (.ref (s.heap.push { cls := .type "tuple_iterator", data := .fields #[.ref l, .int 0 0] }).objs.size)))
        { s with heap := (s.heap.push { cls := .type "tuple_iterator", data := .fields #[.ref l, .int 0 0] }).push { cls := .type "enumerate", data := .fields #[.none, .bool false, .ref s.heap.objs.size, rawInt 0, .none, .none] } }) :=
  .of_wp fun prog w A R s h => by
    obtain ⟨hp, g, d, tk, os⟩ := s; obtain ⟨hl, h⟩ := h
    have hsub := sub_enumerate
    have hL : Heap.IsTuple (Shared.heap ⟨hp, g, d, tk, os⟩) l items := ⟨_, hl, rfl, n, rfl⟩
    wp_walk using wpAny_loadPart' hl
    refine wpAny_stack_any fun st => wpAny_pure ?_
    split
    · rename_i c _ _ _ _ _
      cases (c == Value.type "enumerate")
      · wp_walk using wpAny_loadPart' hl, wpAny_pyIter_tuple hL
        exact ⟨_, rfl, h⟩
      · wp_walk using wpAny_loadPart' hl, wpAny_pyIter_tuple hL
        exact ⟨_, rfl, h⟩
    · wp_walk using wpAny_loadPart' hl, wpAny_pyIter_tuple hL
      exact ⟨_, rfl, h⟩
theorem call_enum_T {prog : Program} {w : World} {A : Around} {E : Value → Shared → Prop} {s : Shared} {l : Addr} {items : Array Value} {Q : Value → Shared → Prop} (hL : s.heap.IsTuple l items)
    (h : ∀ h', IsEnum h' (s.heap.objs.size + 1) s.heap.objs.size 0 .none → h'.IsTupleIter s.heap.objs.size l 0 → h'.objs.size = s.heap.objs.size + 2 →
      (∀ b o, s.heap.get? b = some o → h'.get? b = some o) → Q (.ref (s.heap.objs.size + 1)) { s with heap := h' }) :
    wpAny (model prog w) A (call (.type "enumerate") [.ref l]) Q E s := by
  obtain ⟨⟨c, dct, dt, sl⟩, hl, hc, n, hd⟩ := hL
  replace hc : c = .type "tuple" := hc
  replace hd : dt = .seq items n := hd
  subst hc hd
  refine callType_new F.called_enumerate (by decide) (F.typeCall_enumerate_1 _) (F.newCall_enumerate_1 _) (fun obj => F.args_object_init_2 obj _) F.entry_enumerate_new
    (meets_enum_T l items n dct sl) ⟨hl, ?_⟩
  have hz : (s.heap.push { cls := .type "tuple_iterator", data := .fields #[.ref l, .int 0 0] }).objs.size = s.heap.objs.size + 1 := Heap.size_push ..
  show _ ∧ _
  rw [hz]
  have he : IsEnum ((s.heap.push { cls := .type "tuple_iterator", data := .fields #[.ref l, .int 0 0] }).push
      { cls := .type "enumerate", data := .fields #[.none, .bool false, .ref s.heap.objs.size, rawInt 0, .none, .none] }) (s.heap.objs.size + 1) s.heap.objs.size 0 .none := by
    have := Heap.get?_push_size (s.heap.push { cls := .type "tuple_iterator", data := .fields #[.ref l, .int 0 0] })
      (o := { cls := .type "enumerate", data := .fields #[.none, .bool false, .ref s.heap.objs.size, rawInt 0, .none, .none] }) rfl
    rw [hz] at this; exact this
  refine ⟨⟨_, he, rfl⟩, h _ he ⟨_, Heap.get?_push_of_some _ (Heap.get?_push_size _ rfl), rfl, rfl⟩ (by rw [Heap.size_push, hz]) fun b o x => Heap.get?_push_of_some _ (Heap.get?_push_of_some _ x)⟩
end Nu
namespace Nu
open PySem PySem.Spec PyProof.Rows L2
variable {C : Cq} {Z Z' F F' H H' : Hp} {σ σ' : St} {ρ ρ' : Rho} {X : Cx} {K : PySem.W.Frag}
def IteT (K : PySem.W.Frag) (a : Addr) : It :=
  ⟨fun i H => ∃ (xs : List V) (x : V), SqT K H a xs ∧ xs[i]? = some x, fun i H v H' => ∃ T x, v = .ref T ∧ H T = none ∧ H' = upd H T (.tup [.int (i : Nat), x]) ∧ ∀ xs, SqT K H a xs → xs[i]? = some x, fun i H => ∃ xs : List V, SqT K H a xs ∧ xs.length = i⟩
/-- one pair drawn -/
theorem enum_step {Pg : Program} {w : World} {elts : List Expr} {kk : Nat} {tpos : Pos} {X : Cx} {i n : Nat} {pins : List (Addr × Obj)} {s : Shared} {σ : St} {H : Hp} {E : Value → Shared → Prop} {e it : Addr} {fpD : List Addr} {Pd : Nat → Value → Prop} {St : Nat → Heap → Prop} {x : V} {old : Value} {J : Hp → V → Hp → Prop} {tn : Heap → Prop} (hP : X.prog = Pg) (hw : X.w = w)
    (D : Draws Pg w X.A.in1 it fpD n Pd St) (I : Inv X pins σ H s) (hf : ∀ b ∈ [e, it], FpOk X pins H b) (he : IsEnum s.heap e it ((i : Nat) : Int) old) (hst : St i s.heap) (hlt : i < n) (hne : e ≠ it) (hef : e ∉ fpD) (hil : it < s.heap.objs.size)
    (hx : ∀ u, Pd i u → RelV x u) (hj : ∀ T, H T = none → J H (.ref T) (upd H T (.tup [.int (i : Nat), x]))) (ht : ∀ (h'' : Heap) (u : Value), IsEnum h'' e it (((i + 1 : Nat)) : Int) u → St (i + 1) h'' → tn h'') :
    wpAny (model Pg w) X.A (pyNext (.ref e)) (fun r s1 => ∃ u, r = some u ∧
      wpAny (model Pg w) X.A (letOwnedTupleGo (.Tuple elts kk tpos) (.ref e) u) (fun _ s2 => ∃ x H', Inv X pins σ H' s2 ∧ RelV x u ∧ J H x H' ∧ tn s2.heap ∧ ∀ b ∈ [e, it], H' b = none) E s1) E s := by
  subst hP hw
  have hel : e < s.heap.objs.size := Heap.lt_size he
  refine wpAny_pyNext_enum_itemD D he hst hlt hne hef fun u h' tk hu ho hst' hT hsz hk => ?_
  refine ⟨_, rfl, wpAny_letOwnedTupleGo_enum (s := { s with heap := h', toks := tk + 1 }) ho fun h'' he' sb => ?_⟩
  have hT2 : h''.get? s.heap.objs.size = some { cls := .type "tuple", data := .seq #[.int i tk, u] } := (sb.2 _ (Nat.ne_of_gt hel)).trans hT
  have new : ObjOk X.prog X.w (upd H s.heap.objs.size (.tup [.int (i : Nat), x])) h'' s.heap.objs.size (.tup [.int (i : Nat), x]) :=
    ⟨by show 2 ≤ sizeLine; decide, [.int i tk, u], .cons ⟨_, rfl⟩ (.cons (hx u hu) .nil), ⟨_, hT2, rfl, _, rfl⟩⟩
  have I1 : Inv X pins σ (upd H s.heap.objs.size (.tup [.int (i : Nat), x])) { s with heap := h'', toks := tk + 1 } :=
    I.turnedNew (ch := [e, it]) (fun b ob hb q => (sb.2 b (fun z => hb (by simp [z]))).trans (hk b ob (fun z => hb (by simp [z])) (fun z => hb (by simp [z])) q)) hf (Nat.le_refl _) new
  refine ⟨.ref s.heap.objs.size, _, I1, rfl, hj _ (I.hok.fresh (Nat.le_refl _)), ht h'' u ?_ (D.frame _ _ _ hst' fun b hb o q => (sb.2 b (fun z => hef (z ▸ hb))).trans q), fun b hb => ?_⟩
  · have e1 : ((i + 1 : Nat) : Int) = (i : Int) + 1 := by omega
    rw [e1]; exact he'
  · have hb' : b < s.heap.objs.size := by
      have e' : b = e ∨ b = it := by simpa using hb
      rcases e' with z | z
      · rw [z]; exact hel
      · rw [z]; exact hil
    rw [upd_ne (Nat.ne_of_lt hb')]
    exact (hf b hb).1
theorem turn_enumT {Pg : Program} {w : World} {elts : List Expr} {kk : Nat} {tpos : Pos} (a e it : Addr) (hea : e ≠ a) (hia : a ≠ it) :
    Turn Pg w K (.Tuple elts kk tpos) (IteT K a) [e, it] e (fun i h => (∃ old, IsEnum h e it ((i : Nat) : Int) old) ∧ h.IsTupleIter it a i ∧ e ≠ it) where
  mem := by simp
  obj := fun i h st b hb => by
    obtain ⟨⟨old, he⟩, ⟨o, ho, hc, hd⟩, _⟩ := st
    have e' : b = e ∨ b = it := by simpa using hb
    rcases e' with z | z
    · rw [z]; exact ⟨_, he, fun v q => nomatch q⟩
    · rw [z]; exact ⟨o, ho, fun v q => by rw [hd] at q; cases q⟩
  keep := fun i h h' st k => let ⟨⟨old, he⟩, hi, hne⟩ := st; ⟨⟨old, k e (by simp) _ he⟩, hi.at fun o q => k it (by simp) o q, hne⟩
  item := by
    intro X hP hw hK hc i pins s σ H E I hf st hg
    obtain ⟨⟨old, he⟩, hit, hne⟩ := st
    obtain ⟨xs, x, hq, hx⟩ := hg
    rw [← hK] at hq
    obtain ⟨its, rv, p, hz⟩ := I.tuple hq
    obtain ⟨u, hu, ru⟩ := rv.get hx
    have hil : it < s.heap.objs.size := by obtain ⟨_, q, _⟩ := hit; exact Heap.lt_size q
    have hlt : i < its.toArray.size := by
      have := (List.getElem?_eq_some_iff.mp hu).1
      simpa using this
    refine enum_step (J := fun H x H' => (IteT K a).yld i H x H') (tn := fun h => (∃ old, IsEnum h e it (((i + 1 : Nat)) : Int) old) ∧ h.IsTupleIter it a (i + 1) ∧ e ≠ it) hP hw (Draws.tuple (prog := Pg) (w := w) (A := X.A.in1) (I.ok.hd hc) it a hia its.toArray) I hf he ⟨hit, p⟩ hlt hne (by simp [hne, hea]) hil (x := x) (fun u' hu' => ?_) (fun T hT => ⟨T, x, rfl, hT, rfl, fun ys hy => ?_⟩) fun h'' u' e1 e2 => ⟨⟨u', e1⟩, e2.1, hne⟩
    · have : its[i]? = some u' := by simpa using hu'
      rw [hu] at this; cases this; exact ru
    · rw [← hK] at hy
      rw [I.tuple_inj hy hq]; exact hx
  done := by
    intro X hP hw hK hc i pins s σ H E I hf st hg
    subst hP hw hK
    obtain ⟨⟨old, he⟩, hit, hne⟩ := st
    obtain ⟨xs, hq, hx⟩ := hg
    obtain ⟨its, rv, p, hz⟩ := I.tuple hq
    obtain ⟨f0, f1, f2, f3, f4, f5⟩ := hf it (by simp)
    have hl := rv.length
    have hi : i = its.toArray.size := by simp; omega
    subst hi
    exact wpAny_pyNext_enum_endD (Draws.tuple (A := X.A.in1) (I.ok.hd hc) it a hia its.toArray) he ⟨hit, p⟩ fun h' eb => ⟨rfl, I.turned (t' := s.toks) (fun b o hb q => eb b o hb q) f0 f1 f3 f4 f5⟩
  self := fun A i s Q E st h => let ⟨⟨_, he⟩, _⟩ := st; wpAny_pyIter_enum he h
def IteS (x : Str) : It :=
  ⟨fun i _ => i < x.cps.size, fun i H v H' => ∃ T c, v = .ref T ∧ H T = none ∧ H' = upd H T (.tup [.int (i : Nat), .str ⟨#[c]⟩]) ∧ x.cps[i]? = some c, fun i _ => x.cps.size = i⟩
theorem turn_enumS {Pg : Program} {w : World} {elts : List Expr} {kk : Nat} {tpos : Pos} (x : Str) (t : Tok) (e it : Addr) :
    Turn Pg w K (.Tuple elts kk tpos) (IteS x) [e, it] e (fun i h => (∃ old, IsEnum h e it ((i : Nat) : Int) old) ∧ h.IsStrIter it (strIterType x) x t i ∧ e ≠ it) where
  mem := by simp
  obj := fun i h st b hb => by
    obtain ⟨⟨old, he⟩, ⟨o, ho, hc, hd⟩, _⟩ := st
    have e' : b = e ∨ b = it := by simpa using hb
    rcases e' with z | z
    · rw [z]; exact ⟨_, he, fun v q => nomatch q⟩
    · rw [z]; exact ⟨o, ho, fun v q => by rw [hd] at q; cases q⟩
  keep := fun i h h' st k => let ⟨⟨old, he⟩, ⟨o, ho, r⟩, hne⟩ := st; ⟨⟨old, k e (by simp) _ he⟩, ⟨o, k it (by simp) o ho, r⟩, hne⟩
  item := by
    intro X hP hw hK hc i pins s σ H E I hf st hg
    obtain ⟨⟨old, he⟩, hit, hne⟩ := st
    have hil : it < s.heap.objs.size := by obtain ⟨_, q, _⟩ := hit; exact Heap.lt_size q
    have hg' : i < x.cps.size := hg
    have hx : x.cps[i]? = some x.cps[i] := by simp [hg']
    refine enum_step (J := fun H v H' => (IteS x).yld i H v H') (tn := fun h => (∃ old, IsEnum h e it (((i + 1 : Nat)) : Int) old) ∧ h.IsStrIter it (strIterType x) x t (i + 1) ∧ e ≠ it) hP hw (Draws.text (prog := Pg) (w := w) (A := X.A.in1) (I.ok.hd hc) it x t) I hf he hit hg' hne (by simp [hne]) hil (x := .str ⟨#[x.cps[i]]⟩) (fun u' ⟨c, tk, hc, eu⟩ => ?_) (fun T hT => ⟨T, _, rfl, hT, rfl, hx⟩) fun h'' u' e1 e2 => ⟨⟨u', e1⟩, e2, hne⟩
    rw [hx] at hc; cases hc
    exact ⟨tk, eu⟩
  done := by
    intro X hP hw hK hc i pins s σ H E I hf st hg
    subst hP hw hK
    obtain ⟨⟨old, he⟩, hit, hne⟩ := st
    obtain ⟨f0, f1, f2, f3, f4, f5⟩ := hf it (by simp)
    have hg' : x.cps.size = i := hg
    subst hg'
    exact wpAny_pyNext_enum_endD (Draws.text (A := X.A.in1) (I.ok.hd hc) it x t) he hit fun h' eb => ⟨rfl, I.turned (t' := s.toks) (fun b o hb q => eb b o hb q) f0 f1 f3 f4 f5⟩
  self := fun A i s Q E st h => let ⟨⟨_, he⟩, _⟩ := st; wpAny_pyIter_enum he h
def enumD (ds : List D) : List D := ds.zipIdx.map fun p => D.tup [.int (p.2 : Nat), p.1]
theorem enumD_get {ds : List D} {i : Nat} {d : D} (h : (enumD ds)[i]? = some d) : ∃ e, ds[i]? = some e ∧ d = .tup [.int (i : Nat), e] := by
  unfold enumD at h
  rw [List.getElem?_map, List.getElem?_zipIdx] at h
  cases q : ds[i]? with
  | none => rw [q] at h; cases h
  | some e => rw [q] at h; cases h; exact ⟨e, rfl, by simp⟩
theorem enumD_length (ds : List D) : (enumD ds).length = ds.length := by simp [enumD]
theorem pair_grow {T : Addr} {i : Nat} {x : V} {e : D} (l : Le F H) (n : H T = none) (r : Rel K F x e) : ∃ F2, Grow F H F2 (upd H T (.tup [.int (i : Nat), x])) ∧ Rel K F2 (.ref T) (.tup [.int (i : Nat), e]) := by
  have g : Grow F H (upd F T (.tup [.int (i : Nat), x])) (upd H T (.tup [.int (i : Nat), x])) := Grow.frz l n
  exact ⟨_, g, .tup (.of upd_same) (.cons (.int _) (.cons (r.mono g.ff) .nil))⟩
theorem ite_ok {a : Addr} {vs : List V} {ds : List D} (q : SqL K F a vs) (r : Rels K F vs ds) : ItOk K F (Ite K a) (enumD ds) := by
  refine ⟨fun F' H i d l l' e => ?_, fun F' H i l l' e => ⟨vs, sqL_h (l.trans l') q, by rw [r.length, e, enumD_length]; exact Nat.le_refl _⟩⟩
  obtain ⟨e', h1, rfl⟩ := enumD_get e
  obtain ⟨v, hv, w⟩ := r.get h1
  refine ⟨⟨vs, v, sqL_h (l.trans l') q, hv⟩, fun x H' ⟨T, y, ex, nT, eH, hx⟩ => ?_⟩
  have e2 := hx vs (sqL_h (l.trans l') q)
  rw [hv] at e2; cases e2
  subst ex eH
  exact pair_grow l' nT (w.mono l)
theorem iteT_ok {a : Addr} {vs : List V} {ds : List D} (q : SqT K F a vs) (r : Rels K F vs ds) : ItOk K F (IteT K a) (enumD ds) := by
  refine ⟨fun F' H i d l l' e => ?_, fun F' H i l l' e => ?_⟩
  · obtain ⟨e', h1, rfl⟩ := enumD_get e
    obtain ⟨v, hv, w⟩ := r.get h1
    refine ⟨⟨vs, v, sqT_h (l.trans l') q, hv⟩, fun x H' ⟨T, y, ex, nT, eH, hx⟩ => ?_⟩
    have e2 := hx vs (sqT_h (l.trans l') q)
    rw [hv] at e2; cases e2
    subst ex eH
    exact pair_grow l' nT (w.mono l)
  · exact ⟨vs, sqT_h (l.trans l') q, by rw [r.length, e, enumD_length]⟩
def chars (x : List Cp) : List D := x.map fun c => D.str [c]
theorem chars_get {x : List Cp} {i : Nat} {d : D} (h : (chars x)[i]? = some d) : ∃ c, x[i]? = some c ∧ d = .str [c] := by
  unfold chars at h
  rw [List.getElem?_map] at h
  cases q : x[i]? with
  | none => rw [q] at h; cases h
  | some c => rw [q] at h; cases h; exact ⟨c, rfl, rfl⟩
theorem toStr_one (c : Cp) : toStr [c] = ⟨#[c.val]⟩ := rfl
theorem toStr_size (x : List Cp) : (toStr x).cps.size = x.length := by simp [toStr]
theorem its_ok {x : List Cp} : ItOk K F (Its (toStr x)) (chars x) := by
  refine ⟨fun F' H i d l l' e => ?_, fun F' H i l l' e => ?_⟩
  · obtain ⟨c, hc, rfl⟩ := chars_get e
    have h1 := sign_get hc
    refine ⟨?_, fun v H' ⟨eH, c', h2, ev⟩ => ?_⟩
    · show i < (toStr x).cps.size
      rw [toStr_size]
      exact (List.getElem?_eq_some_iff.mp hc).1
    · rw [h1] at h2; cases h2
      subst eH ev
      exact ⟨F', Grow.refl l', by rw [← toStr_one]; exact .str [c]⟩
  · show (toStr x).cps.size ≤ i
    rw [toStr_size, e]
    simp [chars]
theorem iteS_ok {x : List Cp} : ItOk K F (IteS (toStr x)) (enumD (chars x)) := by
  refine ⟨fun F' H i d l l' e => ?_, fun F' H i l l' e => ?_⟩
  · obtain ⟨e', h1, rfl⟩ := enumD_get e
    obtain ⟨c, hc, rfl⟩ := chars_get h1
    have h1 := sign_get hc
    refine ⟨?_, fun v H' ⟨T, c', ev, nT, eH, h2⟩ => ?_⟩
    · show i < (toStr x).cps.size
      rw [toStr_size]
      exact (List.getElem?_eq_some_iff.mp hc).1
    · rw [h1] at h2; cases h2
      subst eH ev
      exact pair_grow l' nT (by rw [← toStr_one]; exact .str [c])
  · show (toStr x).cps.size = i
    rw [toStr_size, e, enumD_length]
    simp [chars]
theorem di_str {tg e : Expr} {f : Rho → R Opd} (h : PE X e (tO C f)) : PI X tg e (tI C fun ρ => (f ρ).bind fun o ρ1 => match o with
    | .val (.str x) => .ok (chars x) ρ1
    | _ => .err) :=
  PI.imp (pi_str h) fun σ H R ⟨Z, F, ρ, S, m⟩ => tG.step S m fun o ρ1 F1 H1 v l S1 r m1 => by
    cases o with
    | var i => exact m1.elim
    | val d =>
      cases d with
      | str x =>
        cases (show Rel C.K F1 v (.str x) from r)
        exact ⟨_, rfl, m1 F1 H1 _ (Evl.Ex.refl F1) S1 its_ok⟩
      | _ => exact m1.elim
end Nu
namespace Nu
open PySem PySem.Spec PyProof.Rows L2
variable {C : Cq} {Z Z' F F' H H' : Hp} {σ σ' : St} {ρ ρ' : Rho} {X : Cx} {K : PySem.W.Frag}

/-! ## what is walked, by its kind -/
theorem PI.or {tg e : Expr} {w1 w2 : TI} (h1 : PI X tg e w1) (h2 : PI X tg e w2) : PI X tg e (fun σ H R => w1 σ H R ∨ w2 σ H R) := ⟨fun pins s σ H R I h => h.elim (h1.run pins s σ H R I) (h2.run pins s σ H R I)⟩
def walkD : Opd → Option (List D)
  | .val (.lst ds) => some ds
  | .val (.tup ds) => some ds
  | .val (.scr ds) => some ds
  | .val (.str x) => some (chars x)
  | _ => none
def sIt (f : Rho → R Opd) (ρ : Rho) : R (List D) := (f ρ).bind fun o ρ1 => R.of (walkD o) ρ1
theorem di_seq {tg e : Expr} {f : Rho → R Opd} (hk : X.K = C.K) (h : PE X e (tO C f)) : PI X tg e (tI C (sIt f)) :=
  PI.imp (PI.or (pi_list h) (PI.or (pi_tup h) (pi_str h))) fun σ H Rr ⟨Z, F, ρ, S, m⟩ => by
    have m' : At C (relI C.K) Z F σ Rr ((f ρ).bind fun o ρ1 => R.of (walkD o) ρ1) := m
    cases hf : f ρ with
    | err => rw [hf] at m'; exact m'.elim
    | exc c fs ρ1 => rw [hf] at m'; exact .inl ⟨Z, F, ρ, S, by rw [hf]; exact m'⟩
    | ok o ρ1 =>
      rw [hf] at m'
      cases o with
      | var i => exact m'.elim
      | val d =>
        cases d with
        | lst ds =>
          refine .inl ⟨Z, F, ρ, S, ?_⟩
          rw [hf]
          intro F1 H1 v l S1 r
          cases (show Rel C.K F1 v (.lst ds) from r) with
          | lst q rr =>
            rw [hk]
            exact ⟨_, rfl, ⟨_, .of (S1.fh _ _ q)⟩, m' F1 H1 _ l S1 (itl_ok (.of q) rr)⟩
        | scr ds =>
          refine .inl ⟨Z, F, ρ, S, ?_⟩
          rw [hf]
          intro F1 H1 v l S1 r
          cases (show Rel C.K F1 v (.scr ds) from r) with
          | scr q rr =>
            rw [hk]
            exact ⟨_, rfl, ⟨_, sqL_h S1.fh q⟩, m' F1 H1 _ l S1 (itl_ok q rr)⟩
        | tup ds =>
          refine .inr (.inl ⟨Z, F, ρ, S, ?_⟩)
          rw [hf]
          intro F1 H1 v l S1 r
          cases (show Rel C.K F1 v (.tup ds) from r) with
          | tup q rr =>
            rw [hk]
            exact ⟨_, rfl, ⟨_, sqT_h S1.fh q⟩, m' F1 H1 _ l S1 (itt_ok q rr)⟩
        | str x =>
          refine .inr (.inr ⟨Z, F, ρ, S, ?_⟩)
          rw [hf]
          intro F1 H1 v l S1 r
          cases (show Rel C.K F1 v (.str x) from r)
          exact ⟨_, rfl, m' F1 H1 _ l S1 its_ok⟩
        | _ => exact m'.elim
/-! ### enumerate -/
def iEnT (K : PySem.W.Frag) (ta : TA) : TI := fun σ H R => ta σ H fun vs H1 => ∃ a xs, vs = [.ref a] ∧ SqT K H1 a xs ∧ R (IteT K a) H1
def iEnS (ta : TA) : TI := fun σ H R => ta σ H fun vs H1 => ∃ x, vs = [.str x] ∧ R (IteS x) H1
theorem pi_enumT {e : Expr} {ta : TA} {p pos tpos : Pos} {elts : List Expr} {kk : Nat} (hg : Gl X "enumerate") (hm : X.mg "enumerate" = none) (ha : PA X [e] ta) (hs : starEach [e] X.env = [(false, eval e X.env)] := by rfl) :
    PI X (.Tuple elts kk tpos) (.Call (.Name "enumerate" p) [e] [] pos) (iEnT X.K ta) := by
  refine ⟨fun pins s σ H R I h => ?_⟩
  refine Call_ (ld_blt I hg hm boot_enumerate (PyProof.Rows.callWith_type1 (thn (ha.run pos pins s σ H _ I h) fun us s1 ⟨vs, H1, I1, r1, q1⟩ => ?_) hs rfl))
  obtain ⟨a, xs, ex, hq, q⟩ := q1
  subst ex
  cases r1 with
  | cons r rr =>
    cases rr
    cases r
    obtain ⟨its, rv, p', hz⟩ := I1.tuple hq
    have hal : a < s1.heap.objs.size := p'.lt
    refine call_enum_T (show s1.heap.IsTuple a its.toArray from p') fun h' he hit hsz hk => wpAny_pyIter_enum he ?_
    have I2 : Inv X pins σ H1 { s1 with heap := h' } := I1.kept (t' := s1.toks) hk
    refine ⟨s1.heap.objs.size + 1, [s1.heap.objs.size + 1, s1.heap.objs.size], _, _, H1, rfl, I2, turn_enumT a (s1.heap.objs.size + 1) s1.heap.objs.size (Nat.ne_of_gt (Nat.lt_succ_of_lt hal)) (Nat.ne_of_lt hal), ⟨⟨.none, he⟩, hit, Nat.succ_ne_self _⟩, fun b hb => ?_, q⟩
    have e' : b = s1.heap.objs.size + 1 ∨ b = s1.heap.objs.size := by simpa using hb
    have hle : s1.heap.objs.size ≤ b := by
      rcases e' with z | z
      · rw [z]; exact Nat.le_add_right _ _
      · rw [z]; exact Nat.le_refl _
    exact I1.fpOk hle (I1.hok.fresh hle)
theorem pi_enumS {e : Expr} {ta : TA} {p pos tpos : Pos} {elts : List Expr} {kk : Nat} (hg : Gl X "enumerate") (hm : X.mg "enumerate" = none) (ha : PA X [e] ta) (hs : starEach [e] X.env = [(false, eval e X.env)] := by rfl) :
    PI X (.Tuple elts kk tpos) (.Call (.Name "enumerate" p) [e] [] pos) (iEnS ta) := by
  refine ⟨fun pins s σ H R I h => ?_⟩
  refine Call_ (ld_blt I hg hm boot_enumerate (PyProof.Rows.callWith_type1 (thn (ha.run pos pins s σ H _ I h) fun us s1 ⟨vs, H1, I1, r1, q1⟩ => ?_) hs rfl))
  obtain ⟨x, ex, q⟩ := q1
  subst ex
  cases r1 with
  | cons r rr =>
    cases rr
    obtain ⟨t, rfl⟩ := r
    refine call_enumerate_str fun h' he hit hsz hk => wpAny_pyIter_enum he ?_
    have I2 : Inv X pins σ H1 { s1 with heap := h' } := I1.kept (t' := s1.toks) hk
    refine ⟨s1.heap.objs.size + 1, [s1.heap.objs.size + 1, s1.heap.objs.size], _, _, H1, rfl, I2, turn_enumS x t (s1.heap.objs.size + 1) s1.heap.objs.size, ⟨⟨.none, he⟩, hit, Nat.succ_ne_self _⟩, fun b hb => ?_, q⟩
    have e' : b = s1.heap.objs.size + 1 ∨ b = s1.heap.objs.size := by simpa using hb
    have hle : s1.heap.objs.size ≤ b := by
      rcases e' with z | z
      · rw [z]; exact Nat.le_add_right _ _
      · rw [z]; exact Nat.le_refl _
    exact I1.fpOk hle (I1.hok.fresh hle)
def enumO : List Opd → Option (List D)
  | [o] => (walkD o).map enumD
  | _ => none
def sEnum (f : Rho → R (List Opd)) (ρ : Rho) : R (List D) := (f ρ).bind fun os ρ1 => R.of (enumO os) ρ1
theorem di_enum {e : Expr} {f : Rho → R (List Opd)} {p pos tpos : Pos} {elts : List Expr} {kk : Nat} (hk : X.K = C.K) (hg : Gl X "enumerate") (hm : X.mg "enumerate" = none) (ha : PA X [e] (tA C f)) (hs : starEach [e] X.env = [(false, eval e X.env)] := by rfl) :
    PI X (.Tuple elts kk tpos) (.Call (.Name "enumerate" p) [e] [] pos) (tI C (sEnum f)) :=
  PI.imp (PI.or (pi_enum hg hm ha hs) (PI.or (pi_enumT hg hm ha hs) (pi_enumS hg hm ha hs))) fun σ H Rr ⟨Z, F, ρ, S, m⟩ => by
    have m' : At C (relI C.K) Z F σ Rr ((f ρ).bind fun os ρ1 => R.of (enumO os) ρ1) := m
    cases hf : f ρ with
    | err => rw [hf] at m'; exact m'.elim
    | exc c fs ρ1 => rw [hf] at m'; exact .inl ⟨Z, F, ρ, S, by rw [hf]; exact m'⟩
    | ok os ρ1 =>
      rw [hf] at m'
      match os, m' with
      | [], m' => exact m'.elim
      | _ :: _ :: _, m' => exact m'.elim
      | [.var i], m' => exact m'.elim
      | [.val d], m' =>
        cases d with
        | lst ds =>
          refine .inl ⟨Z, F, ρ, S, ?_⟩
          rw [hf]
          intro F1 H1 vs l S1 r
          obtain ⟨v, rfl, w⟩ := ops1 r
          cases w with
          | lst q rr =>
            rw [hk]
            exact ⟨_, _, rfl, .of (S1.fh _ _ q), m' F1 H1 _ l S1 (ite_ok (.of q) rr)⟩
        | scr ds =>
          refine .inl ⟨Z, F, ρ, S, ?_⟩
          rw [hf]
          intro F1 H1 vs l S1 r
          obtain ⟨v, rfl, w⟩ := ops1 r
          cases w with
          | scr q rr =>
            rw [hk]
            exact ⟨_, _, rfl, sqL_h S1.fh q, m' F1 H1 _ l S1 (ite_ok q rr)⟩
        | tup ds =>
          refine .inr (.inl ⟨Z, F, ρ, S, ?_⟩)
          rw [hf]
          intro F1 H1 vs l S1 r
          obtain ⟨v, rfl, w⟩ := ops1 r
          cases w with
          | tup q rr =>
            rw [hk]
            exact ⟨_, _, rfl, sqT_h S1.fh q, m' F1 H1 _ l S1 (iteT_ok q rr)⟩
        | str x =>
          refine .inr (.inr ⟨Z, F, ρ, S, ?_⟩)
          rw [hf]
          intro F1 H1 vs l S1 r
          obtain ⟨v, rfl, w⟩ := ops1 r
          cases w
          exact ⟨_, rfl, m' F1 H1 _ l S1 iteS_ok⟩
        | _ => exact m'.elim
/-! ## operators by values -/
theorem Op2.or {r r' : R2} {g g' : D → D → Option (D × Bool)} (h : Op2 K r g) (h' : Op2 K r' g') : Op2 K (fun x y H Q => r x y H Q ∨ r' x y H Q) (fun a b => match g a b with
    | some p => some p
    | none => g' a b) := fun F H x y dx dy d fr Q l rx ry e k => by
  cases q : g dx dy with
  | some p => simp only [q] at e; cases e; exact .inl (h F H x y dx dy d fr Q l rx ry q k)
  | none => simp only [q] at e; exact .inr (h' F H x y dx dy d fr Q l rx ry e k)
/-- the result is no new object -/
theorem grow_same {d : D} {v : V} {Q : VK} (l : Le F H) (r : Rel K F v d) (k : ∀ F' H' v, Grow F H F' H' → NewR K H F' H' v d false → Q v H') : Q v H := k F H v (Grow.refl l) r
theorem grow_lst {ds : List D} {vs : List V} {Q : VK} {p : Addr} (l : Le F H) (n : H p = none) (r : Rels K F vs ds) (k : ∀ F' H' v, Grow F H F' H' → NewR K H F' H' v (.lst ds) true → Q v H') : Q (.ref p) (upd H p (.lst vs)) :=
  k F _ _ (Grow.fresh l n) ⟨p, rfl, n, Evl.fresh_back l n, vs, upd_same, r⟩
theorem grow_tup {ds : List D} {vs : List V} {Q : VK} {p : Addr} (l : Le F H) (n : H p = none) (r : Rels K F vs ds) (k : ∀ F' H' v, Grow F H F' H' → NewR K H F' H' v (.tup ds) false → Q v H') : Q (.ref p) (upd H p (.tup vs)) := by
  have g : Grow F H (upd F p (.tup vs)) (upd H p (.tup vs)) := Grow.frz l n
  exact k _ _ _ g (Rel.tup (.of upd_same) (r.mono g.ff))
def gI (C : Int → Int → Bool) (f : Int → Int → D) : D → D → Option (D × Bool)
  | .int i, .int j => if C i j = true then some (f i j, false) else none
  | _, _ => none
theorem op2_I {Cp' : Int → Int → Prop} {Cb : Int → Int → Bool} {g : Int → Int → V} {f : Int → Int → D} (hc : ∀ i j, Cb i j = true → Cp' i j) (hf : ∀ i j F, Rel K F (g i j) (f i j)) : Op2 K (rI Cp' g) (gI Cb f) := fun F H x y dx dy d fr Q l rx ry e k => by
  cases dx with
  | int i =>
    cases dy with
    | int j =>
      have e' : (if Cb i j = true then some (f i j, false) else none) = some (d, fr) := e
      split at e'
      · rename_i h
        cases e'
        exact ⟨i, j, rx.int, ry.int, hc i j h, grow_same l (hf i j F) k⟩
      · cases e'
    | _ => cases e
  | _ => cases e
def gI0 (f : Int → Int → D) : D → D → Option (D × Bool)
  | .int i, .int j => some (f i j, false)
  | _, _ => none
theorem op2_I0 {g : Int → Int → V} {f : Int → Int → D} (hf : ∀ i j F, Rel K F (g i j) (f i j)) : Op2 K (rI0 g) (gI0 f) := fun F H x y dx dy d fr Q l rx ry e k => by
  cases dx with
  | int i =>
    cases dy with
    | int j =>
      cases e
      exact ⟨i, j, rx.int, ry.int, grow_same l (hf i j F) k⟩
    | _ => cases e
  | _ => cases e
theorem toStr_append (x y : List Cp) : toStr x ++ toStr y = toStr (x ++ y) := by
  unfold toStr
  show (⟨(x.map (·.val)).toArray ++ (y.map (·.val)).toArray⟩ : Str) = _
  rw [List.map_append, List.append_toArray]
def gCatS : D → D → Option (D × Bool)
  | .str x, .str y => if x.length + y.length ≤ sizeLine then some (.str (x ++ y), false) else none
  | _, _ => none
def gCatL : D → D → Option (D × Bool)
  | .lst x, .lst y => if x.length + y.length ≤ sizeLine then some (.lst (x ++ y), true) else none
  | _, _ => none
def gCatT : D → D → Option (D × Bool)
  | .tup x, .tup y => if x.length + y.length ≤ sizeLine then some (.tup (x ++ y), false) else none
  | _, _ => none
theorem op2_catS : Op2 K (fun x y H Q => ∃ i j, x = .str i ∧ y = .str j ∧ i.length + j.length ≤ sizeLine ∧ Q (.str (i ++ j)) H) gCatS := fun F H x y dx dy d fr Q l rx ry e k => by
  cases dx with
  | str a =>
    cases dy with
    | str b =>
      have e' : (if a.length + b.length ≤ sizeLine then some (D.str (a ++ b), false) else none) = some (d, fr) := e
      split at e'
      · rename_i h
        cases e'
        refine ⟨_, _, rx.str, ry.str, by rw [toStr_length, toStr_length]; exact h, ?_⟩
        rw [toStr_append]
        exact grow_same l (.str _) k
      · cases e'
    | _ => cases e
  | _ => cases e
theorem op2_catL : Op2 K rCat gCatL := fun F H x y dx dy d fr Q l rx ry e k => by
  cases dx with
  | lst a =>
    cases dy with
    | lst b =>
      have e' : (if a.length + b.length ≤ sizeLine then some (D.lst (a ++ b), true) else none) = some (d, fr) := e
      split at e'
      · rename_i h
        cases e'
        obtain ⟨p, vs, rfl, hp, r1⟩ := rx.lst l
        obtain ⟨q, ws, rfl, hq, r2⟩ := ry.lst l
        exact ⟨p, q, vs, ws, rfl, rfl, hp, hq, by rw [r1.length, r2.length]; exact h, fun t nt => grow_lst l nt (r1.append r2) k⟩
      · cases e'
    | _ => cases e
  | _ => cases e
theorem op2_catT : Op2 K (rCatA K) gCatT := fun F H x y dx dy d fr Q l rx ry e k => by
  cases dx with
  | tup a =>
    cases dy with
    | tup b =>
      have e' : (if a.length + b.length ≤ sizeLine then some (D.tup (a ++ b), false) else none) = some (d, fr) := e
      split at e'
      · rename_i h
        cases e'
        obtain ⟨p, vs, rfl, hp, hpF, r1⟩ := rx.tup l
        obtain ⟨q, ws, rfl, hq, hqF, r2⟩ := ry.tup l
        refine ⟨p, q, vs, ws, rfl, rfl, hp, hq, by rw [r1.length, r2.length]; exact h, fun e => ?_, fun _ e => ?_, fun _ _ t nt => grow_tup l nt (r1.append r2) k⟩
        · subst e
          cases r1
          exact grow_same l (.tup hqF r2) k
        · subst e
          cases r2
          rw [List.append_nil] at k
          exact grow_same l (.tup hpF r1) k
      · cases e'
    | _ => cases e
  | _ => cases e
/-- + -/
def gAdd (a b : D) : Option (D × Bool) := match gI0 (fun i j => .int (i + j)) a b with
  | some p => some p
  | none => match gCatS a b with
    | some p => some p
    | none => match gCatL a b with
      | some p => some p
      | none => gCatT a b
@[simp] theorem gAdd_int (i j : Int) : gAdd (.int i) (.int j) = some (.int (i + j), false) := rfl
theorem gAdd_str {x y : List Cp} (h : x.length + y.length ≤ sizeLine) : gAdd (.str x) (.str y) = some (.str (x ++ y), false) := by
  simp only [gAdd, gI0, gCatS]; rw [if_pos h]
theorem gAdd_lst {x y : List D} (h : x.length + y.length ≤ sizeLine) : gAdd (.lst x) (.lst y) = some (.lst (x ++ y), true) := by
  simp only [gAdd, gI0, gCatS, gCatL]; rw [if_pos h]
theorem gAdd_tup {x y : List D} (h : x.length + y.length ≤ sizeLine) : gAdd (.tup x) (.tup y) = some (.tup (x ++ y), false) := by
  simp only [gAdd, gI0, gCatS, gCatL, gCatT]; rw [if_pos h]
theorem de_add {f1 f2 : Rho → R Opd} {a b : Expr} {pos : Pos} (hk : X.K = C.K) (ha : PE X a (tO C f1)) (hb : PE X b (tO C f2)) : PE X (.BinOp a .Add b pos) (tE C (sOp2 gAdd f1 f2)) := by
  have h2 : Op2 C.K _ gAdd := Op2.or (op2_I0 (K := C.K) (g := fun i j => .int (i + j)) (f := fun i j => .int (i + j)) fun _ _ _ => .int _) (Op2.or op2_catS (Op2.or op2_catL op2_catT))
  rw [← hk] at h2
  refine de_op2 (OpR.or op_add (OpR.or op_add_str (OpR.or op_cat op_catA))) ?_ ha hb
  rw [hk] at h2 ⊢
  exact h2
def gSub : D → D → Option (D × Bool) := gI0 fun i j => .int (i - j)
@[simp] theorem gSub_int (i j : Int) : gSub (.int i) (.int j) = some (.int (i - j), false) := rfl
theorem de_sub {f1 f2 : Rho → R Opd} {a b : Expr} {pos : Pos} (ha : PE X a (tO C f1)) (hb : PE X b (tO C f2)) : PE X (.BinOp a .Sub b pos) (tE C (sOp2 gSub f1 f2)) := de_op2 op_sub (op2_I0 fun _ _ _ => .int _) ha hb
def cMod (_ j : Int) : Bool := decide (0 < j)
def gMod : D → D → Option (D × Bool) := gI cMod fun i j => .int (i % j)
theorem gMod_int {i j : Int} (h : 0 < j) : gMod (.int i) (.int j) = some (.int (i % j), false) := by simp [gMod, gI, cMod, h]
theorem de_mod {f1 f2 : Rho → R Opd} {a b : Expr} {pos : Pos} (ha : PE X a (tO C f1)) (hb : PE X b (tO C f2)) : PE X (.BinOp a .Mod b pos) (tE C (sOp2 gMod f1 f2)) := de_op2 op_mod (op2_I (fun _ _ h => of_decide_eq_true h) fun _ _ _ => .int _) ha hb
def cDiv (_ j : Int) : Bool := decide (0 < j ∧ j < 1073741824)
def gDiv : D → D → Option (D × Bool) := gI cDiv fun i j => .int (i / j)
theorem gDiv_int {i j : Int} (h : 0 < j ∧ j < 1073741824) : gDiv (.int i) (.int j) = some (.int (i / j), false) := by simp [gDiv, gI, cDiv, h]
theorem de_div {f1 f2 : Rho → R Opd} {a b : Expr} {pos : Pos} (ha : PE X a (tO C f1)) (hb : PE X b (tO C f2)) : PE X (.BinOp a .FloorDiv b pos) (tE C (sOp2 gDiv f1 f2)) := de_op2 op_fdiv (op2_I (fun i j h => (show CDiv i j from (of_decide_eq_true h : 0 < j ∧ j < 1073741824))) fun _ _ _ => .int _) ha hb
def cPow (i j : Int) : Bool := decide (0 ≤ j ∧ j ≤ 1000000 ∧ i.natAbs < 2 ^ 64)
def gPow : D → D → Option (D × Bool) := gI cPow fun i j => .int (i ^ j.toNat)
theorem de_pow {f1 f2 : Rho → R Opd} {a b : Expr} {pos : Pos} (ha : PE X a (tO C f1)) (hb : PE X b (tO C f2)) : PE X (.BinOp a .Pow b pos) (tE C (sOp2 gPow f1 f2)) := de_op2 op_pow (op2_I (fun i j h => (show CPow i j from (of_decide_eq_true h : 0 ≤ j ∧ j ≤ 1000000 ∧ i.natAbs < 2 ^ 64))) fun _ _ _ => .int _) ha hb
/-! ### comparisons of ints -/
def gLt : D → D → Option (D × Bool) := gI0 fun i j => .bl (decide (i < j))
def gLe : D → D → Option (D × Bool) := gI0 fun i j => .bl (decide (i ≤ j))
def gGt : D → D → Option (D × Bool) := gI0 fun i j => .bl (decide (j < i))
def gGe : D → D → Option (D × Bool) := gI0 fun i j => .bl (decide (j ≤ i))
@[simp] theorem gLt_int (i j : Int) : gLt (.int i) (.int j) = some (.bl (decide (i < j)), false) := rfl
@[simp] theorem gLe_int (i j : Int) : gLe (.int i) (.int j) = some (.bl (decide (i ≤ j)), false) := rfl
@[simp] theorem gGt_int (i j : Int) : gGt (.int i) (.int j) = some (.bl (decide (j < i)), false) := rfl
@[simp] theorem gGe_int (i j : Int) : gGe (.int i) (.int j) = some (.bl (decide (j ≤ i)), false) := rfl
theorem o_lt : Op2 K (rI0 fun i j => .bl (decide (i < j))) gLt := op2_I0 fun _ _ _ => .bl _
theorem o_le : Op2 K (rI0 fun i j => .bl (decide (i ≤ j))) gLe := op2_I0 fun _ _ _ => .bl _
theorem o_gt : Op2 K (rI0 fun i j => .bl (decide (j < i))) gGt := op2_I0 fun _ _ _ => .bl _
theorem o_ge : Op2 K (rI0 fun i j => .bl (decide (j ≤ i))) gGe := op2_I0 fun _ _ _ => .bl _
end Nu
namespace Nu
open PySem PySem.Spec PyProof.Rows L2
variable {C : Cq} {Z Z' F F' H H' : Hp} {σ σ' : St} {ρ ρ' : Rho} {X : Cx} {K : PySem.W.Frag}

/-! ## data as plain data -/
mutual
def toPy : D → Option PyData
  | .non => some .none
  | .bl b => some (.bool b)
  | .int i => some (.int i)
  | .str x => some (.str (toStr x))
  | .tup ds => (toPys ds).map .tuple
  | .lst ds => (toPys ds).map .list
  | .scr ds => (toPys ds).map .list
  | .ty _ => none
  | .obj _ _ => none
def toPys : List D → Option (List PyData)
  | [] => some []
  | d :: r => (toPy d).bind fun x => (toPys r).map (x :: ·)
end
mutual
theorem Rel.dp (l : Le F H) : ∀ {v : V} {d : D} {p : PyData}, Rel K F v d → toPy d = some p → Dp K H v p
  | _, _, _, .non, e => by unfold toPy at e; cases e; exact .non
  | _, _, _, .bl b, e => by unfold toPy at e; cases e; exact .bl b
  | _, _, _, .int i, e => by unfold toPy at e; cases e; exact .int i
  | _, _, _, .str x, e => by unfold toPy at e; cases e; exact .str _
  | _, _, _, .ty n, e => by unfold toPy at e; cases e
  | _, _, _, .tup h r, e => by
    unfold toPy at e
    obtain ⟨q, e1, e2⟩ := Option.map_eq_some_iff.mp e
    subst e2
    exact .tup (sqT_h l h) (Rels.dp l r e1)
  | _, _, _, .lst h r, e => by
    unfold toPy at e
    obtain ⟨q, e1, e2⟩ := Option.map_eq_some_iff.mp e
    subst e2
    exact .lst (.of (l _ _ h)) (Rels.dp l r e1)
  | _, _, _, .scr h r, e => by
    unfold toPy at e
    obtain ⟨q, e1, e2⟩ := Option.map_eq_some_iff.mp e
    subst e2
    exact .lst (sqL_h l h) (Rels.dp l r e1)
  | _, _, _, .obj _ _, e => by unfold toPy at e; cases e
theorem Rels.dp (l : Le F H) : ∀ {v : List V} {d : List D} {p : List PyData}, Rels K F v d → toPys d = some p → DpAll K H v p
  | _, _, _, .nil, e => by unfold toPys at e; cases e; exact .nil
  | _, _, _, .cons h r, e => by
    unfold toPys at e
    obtain ⟨q, e1, e2⟩ := Option.bind_eq_some_iff.mp e
    obtain ⟨q2, e3, e4⟩ := Option.map_eq_some_iff.mp e2
    subst e4
    exact .cons (Rel.dp l h e1) (Rels.dp l r e3)
end
theorem Rl.dp {v : V} {d : D} {p : PyData} (l : Le F H) (h : Rl K F H v d) (e : toPy d = some p) : Dp K H v p := by
  rcases h with h | ⟨a, rfl, w⟩
  · exact h.dp l e
  · cases d with
    | lst ds =>
      obtain ⟨vs, q, r⟩ := w
      unfold toPy at e
      obtain ⟨p', e1, e2⟩ := Option.map_eq_some_iff.mp e
      subst e2
      exact .lst (.of q) (r.dp l e1)
    | obj c fs => unfold toPy at e; cases e
    | _ => exact w.elim
def pyOf (d : D) : Option PyData := (toPy d).bind fun p => if SeqAt.shaped p = true then some p else none
theorem Rl.py {v : V} {d : D} {p : PyData} (l : Le F H) (h : Rl K F H v d) (e : pyOf d = some p) : Dp K H v p ∧ SeqAt.shaped p = true := by
  unfold pyOf at e
  obtain ⟨q, e1, e2⟩ := Option.bind_eq_some_iff.mp e
  split at e2
  · rename_i hs
    cases e2
    exact ⟨h.dp l e1, hs⟩
  · cases e2
def gEq (a b : D) : Option (D × Bool) := (pyOf a).bind fun x => (pyOf b).map fun y => (.bl (PyData.eqv x y), false)
def gNe (a b : D) : Option (D × Bool) := (pyOf a).bind fun x => (pyOf b).map fun y => (.bl (!PyData.eqv x y), false)
theorem o_eq : Op2 K (rEqD K) gEq := fun F H x y dx dy d fr Q l rx ry e k => by
  obtain ⟨p, e1, e2⟩ := Option.bind_eq_some_iff.mp e
  obtain ⟨q, e3, e4⟩ := Option.map_eq_some_iff.mp e2
  cases e4
  exact ⟨p, q, (rx.py l e1).1, (ry.py l e3).1, (rx.py l e1).2, (ry.py l e3).2, grow_same l (.bl _) k⟩
theorem o_ne : Op2 K (rNeD K) gNe := fun F H x y dx dy d fr Q l rx ry e k => by
  obtain ⟨p, e1, e2⟩ := Option.bind_eq_some_iff.mp e
  obtain ⟨q, e3, e4⟩ := Option.map_eq_some_iff.mp e2
  cases e4
  exact ⟨p, q, (rx.py l e1).1, (ry.py l e3).1, (rx.py l e1).2, (ry.py l e3).2, grow_same l (.bl _) k⟩
/-! ### is None, is True -/
def isNon : D → Bool
  | .non => true
  | _ => false
theorem Rl.isNon {v : V} {d : D} (h : Rl K F H v d) : decide (v = .non) = isNon d := by
  cases d with
  | non => rw [h.non]; rfl
  | _ =>
    refine decide_eq_false fun e => ?_
    subst e
    rcases h with h | ⟨a, e, w⟩
    · cases h
    · cases e
def gIs : D → D → Option (D × Bool)
  | a, .non => some (.bl (isNon a), false)
  | .bl a, .bl b => some (.bl (decide (a = b)), false)
  | _, _ => none
def gNot : D → D → Option (D × Bool)
  | a, .non => some (.bl (!isNon a), false)
  | .bl a, .bl b => some (.bl (!decide (a = b)), false)
  | _, _ => none
abbrev rIs1 : R2 := fun x y H Q => (y = .non ∧ Q (.bl (decide (x = .non))) H) ∨ ∃ a b, x = .bl a ∧ y = .bl b ∧ Q (.bl (decide (a = b))) H
abbrev rNot1 : R2 := fun x y H Q => (y = .non ∧ Q (.bl (!decide (x = .non))) H) ∨ ∃ a b, x = .bl a ∧ y = .bl b ∧ Q (.bl (!decide (a = b))) H
theorem opr_is : OpR X (compareOp .Is) rIs1 := OpR.or op_isN op_is_bl
theorem opr_not : OpR X (compareOp .IsNot) rNot1 := OpR.or op_notN op_isnot_bl
theorem o_is : Op2 K rIs1 gIs := fun F H x y dx dy d fr Q l rx ry e k => by
  cases dy with
  | non =>
    have e' : some (D.bl (isNon dx), false) = some (d, fr) := by cases dx <;> exact e
    cases e'
    refine .inl ⟨ry.non, ?_⟩
    rw [rx.isNon]
    exact grow_same l (.bl _) k
  | bl b =>
    cases dx with
    | bl a => cases e; exact .inr ⟨a, b, rx.bl, ry.bl, grow_same l (.bl _) k⟩
    | _ => cases e
  | _ => cases dx <;> cases e
theorem o_not : Op2 K rNot1 gNot := fun F H x y dx dy d fr Q l rx ry e k => by
  cases dy with
  | non =>
    have e' : some (D.bl (!isNon dx), false) = some (d, fr) := by cases dx <;> exact e
    cases e'
    refine .inl ⟨ry.non, ?_⟩
    rw [rx.isNon]
    exact grow_same l (.bl _) k
  | bl b =>
    cases dx with
    | bl a => cases e; exact .inr ⟨a, b, rx.bl, ry.bl, grow_same l (.bl _) k⟩
    | _ => cases e
  | _ => cases dx <;> cases e
/-! ### in -/
def flD : D → Bool
  | .non => true
  | .bl _ => true
  | .int _ => true
  | .str _ => true
  | _ => false
def vD : D → V
  | .bl b => .bl b
  | .int i => .int i
  | .str x => .str (toStr x)
  | _ => .non
theorem vD_flat (d : D) : flatV (vD d) = true := by cases d <;> rfl
theorem Rl.flat {v : V} {d : D} (h : Rl K F H v d) (e : flD d = true) : v = vD d := by
  cases d with
  | non => exact h.non
  | bl b => exact h.bl
  | int b => exact h.int
  | str b => exact h.str
  | _ => cases e
theorem Rels.flat : ∀ {vs : List V} {ds : List D}, Rels K F vs ds → ds.all flD = true → vs = ds.map vD
  | _, _, .nil, _ => rfl
  | _, _, .cons h r, e => by
    rw [List.all_cons, Bool.and_eq_true] at e
    rw [List.map_cons, ← Rl.flat (H := F) (.inl h) e.1, ← Rels.flat r e.2]
def inD (x : D) (ds : List D) : Bool := inV (vD x) (ds.map vD)
def gInS (x : D) (z : List Cp) : Option (D × Bool) := match x with
  | .str [c] => some (.bl (decide (c ∈ z)), false)
  | _ => none
def gIn (x y : D) : Option (D × Bool) := match y with
  | .str z => gInS x z
  | .tup ds => if flD x = true ∧ ds.all flD = true then some (.bl (inD x ds), false) else none
  | .lst ds => if flD x = true ∧ ds.all flD = true then some (.bl (inD x ds), false) else (pyOf x).bind fun p => (pyOf (.lst ds)).bind fun q => match q with
    | .list qs => some (.bl (qs.any fun z => PyData.eqv z p), false)
    | _ => none
  | _ => none
abbrev rIn1 (K : PySem.W.Frag) : R2 := fun x y H Q => (∃ (c : Nat) (z : Str), x = .str ⟨#[c]⟩ ∧ y = .str z ∧ Q (.bl (decide (c ∈ z.cps.toList))) H) ∨ rIn K false x y H Q ∨ rInD K x y H Q
abbrev rNi1 (K : PySem.W.Frag) : R2 := fun x y H Q => (∃ (c : Nat) (z : Str), x = .str ⟨#[c]⟩ ∧ y = .str z ∧ Q (.bl (!decide (c ∈ z.cps.toList))) H) ∨ rIn K true x y H Q ∨ rNotInD K x y H Q
theorem opr_in (hu : X.A.units + 65 < cLine) : OpR X (compareOp .In) (rIn1 X.K) := OpR.or op_in_sign (OpR.or op_in_seq (op_inD hu))
theorem opr_ni (hu : X.A.units + 65 < cLine) : OpR X (compareOp .NotIn) (rNi1 X.K) := OpR.or op_notIn_sign (OpR.or op_notIn_seq (op_notInD hu))
theorem toStr_list (z : List Cp) : (toStr z).cps.toList = z.map (·.val) := by unfold toStr; simp
theorem mem_toStr (c : Cp) (z : List Cp) : decide (c.val ∈ (toStr z).cps.toList) = decide (c ∈ z) := by
  rw [toStr_list]
  refine decide_eq_decide.mpr ?_
  rw [List.mem_map]
  exact ⟨fun ⟨x, h, e⟩ => by rw [← Fin.ext e]; exact h, fun h => ⟨c, h, rfl⟩⟩
theorem in_core {neg : Bool} {x y : V} {dx : D} {ds : List D} {Q : VK} (l : Le F H) (rx : Rl K F H x dx) (ry : (∃ a vs, y = .ref a ∧ (SqL K H a vs ∨ SqT K H a vs) ∧ Rels K F vs ds)) (h : flD dx = true ∧ ds.all flD = true) (q : Q (.bl (if neg then !inD dx ds else inD dx ds)) H) : rIn K neg x y H Q := by
  obtain ⟨a, vs, rfl, hq, rr⟩ := ry
  have e1 := rx.flat h.1
  have e2 := rr.flat h.2
  subst e1
  subst e2
  refine ⟨a, _, rfl, hq, vD_flat _, ?_, q⟩
  rw [List.all_eq_true]
  intro z hz
  obtain ⟨d, _, e⟩ := List.mem_map.mp hz
  rw [← e]
  exact vD_flat d
theorem o_in : Op2 K (rIn1 K) gIn := fun F H x y dx dy d fr Q l rx ry e k => by
  cases dy with
  | str z =>
    match dx, rx, e with
    | .str [c], rx, e =>
      cases e
      refine .inl ⟨c.val, toStr z, rx.str, ry.str, ?_⟩
      rw [mem_toStr]
      exact grow_same l (.bl _) k
  | tup ds =>
    have e' : (if flD dx = true ∧ ds.all flD = true then some (D.bl (inD dx ds), false) else none) = some (d, fr) := e
    split at e'
    · rename_i h
      cases e'
      obtain ⟨a, vs, rfl, hq, _, rr⟩ := ry.tup l
      exact .inr (.inl (in_core l rx ⟨a, vs, rfl, .inr hq, rr⟩ h (grow_same l (.bl _) k)))
    · cases e'
  | lst ds =>
    have e' : (if flD dx = true ∧ ds.all flD = true then some (D.bl (inD dx ds), false) else (pyOf dx).bind fun p => (pyOf (.lst ds)).bind fun q => match q with
      | .list qs => some (D.bl (qs.any fun z => PyData.eqv z p), false)
      | _ => none) = some (d, fr) := e
    split at e'
    · rename_i h
      cases e'
      obtain ⟨a, vs, rfl, hq, rr⟩ := ry.lst l
      exact .inr (.inl (in_core l rx ⟨a, vs, rfl, .inl (.of hq), rr⟩ h (grow_same l (.bl _) k)))
    · obtain ⟨p, e1, e2⟩ := Option.bind_eq_some_iff.mp e'
      obtain ⟨q, e3, e4⟩ := Option.bind_eq_some_iff.mp e2
      split at e4
      · cases e4
        exact .inr (.inr ⟨_, _, (rx.py l e1).1, (ry.py l e3).1, (rx.py l e1).2, (ry.py l e3).2, grow_same l (.bl _) k⟩)
      · cases e4
  | _ => cases e
def gNi (a b : D) : Option (D × Bool) := match gIn a b with
  | some (.bl r, _) => some (.bl (!r), false)
  | _ => none
theorem o_ni : Op2 K (rNi1 K) gNi := fun F H x y dx dy d fr Q l rx ry e k => by
  unfold gNi at e
  cases dy with
  | str z =>
    match dx, rx, e with
    | .str [c], rx, e =>
      cases e
      refine .inl ⟨c.val, toStr z, rx.str, ry.str, ?_⟩
      rw [mem_toStr]
      exact grow_same l (.bl _) k
  | tup ds =>
    have e' : (match (if flD dx = true ∧ ds.all flD = true then some (D.bl (inD dx ds), false) else none : Option (D × Bool)) with
      | some (.bl r, _) => some (D.bl (!r), false)
      | _ => none) = some (d, fr) := e
    by_cases h : flD dx = true ∧ ds.all flD = true
    · rw [if_pos h] at e'
      cases e'
      obtain ⟨a, vs, rfl, hq, _, rr⟩ := ry.tup l
      exact .inr (.inl (in_core l rx ⟨a, vs, rfl, .inr hq, rr⟩ h (grow_same l (.bl _) k)))
    · rw [if_neg h] at e'; cases e'
  | lst ds =>
    have e' : (match (if flD dx = true ∧ ds.all flD = true then some (D.bl (inD dx ds), false) else (pyOf dx).bind fun p => (pyOf (.lst ds)).bind fun q => match q with
      | .list qs => some (D.bl (qs.any fun z => PyData.eqv z p), false)
      | _ => none : Option (D × Bool)) with
      | some (.bl r, _) => some (D.bl (!r), false)
      | _ => none) = some (d, fr) := e
    by_cases h : flD dx = true ∧ ds.all flD = true
    · rw [if_pos h] at e'
      cases e'
      obtain ⟨a, vs, rfl, hq, rr⟩ := ry.lst l
      exact .inr (.inl (in_core l rx ⟨a, vs, rfl, .inl (.of hq), rr⟩ h (grow_same l (.bl _) k)))
    · rw [if_neg h] at e'
      cases e1 : pyOf dx with
      | none => rw [e1] at e'; cases e'
      | some p =>
        cases e3 : pyOf (.lst ds) with
        | none => rw [e1, e3] at e'; cases e'
        | some q =>
          rw [e1, e3] at e'
          cases q with
          | list qs =>
            cases e'
            exact .inr (.inr ⟨_, _, (rx.py l e1).1, (ry.py l e3).1, (rx.py l e1).2, (ry.py l e3).2, grow_same l (.bl _) k⟩)
          | _ => cases e'
  | _ => cases e
/-! ### times -/
theorem op_mulS : OpR X (binaryOp .Mult) (fun x y H Q => ∃ z k, x = .str z ∧ y = .int k ∧ MulOk z k ∧ Q (.str (Txt.mul z k)) H) := by
  intro pins s σ H x y v u Q I rx ry h
  obtain ⟨z, k, rfl, rfl, hk, q⟩ := h
  obtain ⟨t, rfl⟩ := rx
  obtain ⟨t', rfl⟩ := ry
  exact SB.mul hk fun t2 k2 => ⟨.str _, H, I.tok _, ⟨_, rfl⟩, q⟩
def repS (x : List Cp) (n : Int) : List Cp := (List.replicate n.toNat x).flatten
theorem foldl_app (a : Array Nat) : ∀ (n : Nat) (b : Array Nat), (List.replicate n a).foldl (· ++ ·) b = b ++ ((List.replicate n a.toList).flatten).toArray
  | 0, b => by simp
  | n + 1, b => by
    rw [List.replicate_succ, List.foldl_cons, foldl_app a n, List.replicate_succ, List.flatten_cons]
    apply Array.ext'
    simp
theorem mul_toStr (x : List Cp) (n : Int) : Txt.mul (toStr x) n = toStr (repS x n) := by
  unfold Txt.mul repS
  split
  · rename_i h
    rw [show n.toNat = 0 by omega]
    rfl
  · rename_i h
    split
    · rename_i h2
      rw [Bool.or_eq_true] at h2
      rcases h2 with h2 | h2
      · rw [beq_iff_eq] at h2
        rw [h2]
        simp
      · rw [beq_iff_eq, toStr_length] at h2
        rw [List.length_eq_zero_iff] at h2
        rw [h2]
        congr 1
        generalize n.toNat = m
        induction m with
        | zero => rfl
        | succ m ih => rw [List.replicate_succ, List.flatten_cons, ← ih]; rfl
    · unfold toStr
      congr 1
      rw [foldl_app]
      simp [List.map_flatten]
def gMul : D → D → Option (D × Bool)
  | .int i, .int j => if (i.natAbs < 2 ^ 64 ∨ j.natAbs < 2 ^ 64) then some (.int (i * j), false) else none
  | .str x, .int j => if j.natAbs < 2 ^ 20 ∧ x.length < 2 ^ 20 ∧ x.length * j.toNat ≤ sizeLine then some (.str (repS x j), false) else none
  | .lst ds, .int j => if j.natAbs < 2 ^ 20 ∧ ds.length * j.toNat ≤ sizeLine then some (.lst (List.replicate j.toNat ds).flatten, true) else none
  | _, _ => none
theorem Rels.rep {vs : List V} {ds : List D} (r : Rels K F vs ds) (n : Nat) : Rels K F (List.replicate n vs).flatten (List.replicate n ds).flatten := by
  induction n with
  | zero => exact .nil
  | succ n ih => rw [List.replicate_succ, List.replicate_succ, List.flatten_cons, List.flatten_cons]; exact r.append ih
theorem de_mul {f1 f2 : Rho → R Opd} {a b : Expr} {pos : Pos} (ha : PE X a (tO C f1)) (hb : PE X b (tO C f2)) : PE X (.BinOp a .Mult b pos) (tE C (sOp2 gMul f1 f2)) := by
  refine de_op2 (OpR.or op_mul (OpR.or op_mulS op_rep)) ?_ ha hb
  intro F H x y dx dy d fr Q l rx ry e k
  cases dy with
  | int j =>
    cases dx with
    | int i =>
      have e' : (if (i.natAbs < 2 ^ 64 ∨ j.natAbs < 2 ^ 64) then some (D.int (i * j), false) else none) = some (d, fr) := e
      split at e'
      · rename_i h
        cases e'
        exact .inl ⟨i, j, rx.int, ry.int, (show CMul i j from h.elim (fun h => .inl (by omega)) fun h => .inr (by omega)), grow_same l (.int _) k⟩
      · cases e'
    | str z =>
      have e' : (if j.natAbs < 2 ^ 20 ∧ z.length < 2 ^ 20 ∧ z.length * j.toNat ≤ sizeLine then some (D.str (repS z j), false) else none) = some (d, fr) := e
      split at e'
      · rename_i h
        cases e'
        obtain ⟨h1, h2, h3⟩ := h
        refine .inr (.inl ⟨_, _, rx.str, ry.int, ⟨?_, ?_, ?_⟩, ?_⟩)
        · rw [decide_eq_false (by omega), decide_eq_false (by omega)]; rfl
        · intro hn _ hc
          rw [toStr_length] at hc
          have : (2 ^ 63 - 1 : Int) / j ≥ 2 ^ 40 := by
            have hj : (0 : Int) < j := by omega
            rw [ge_iff_le, Int.le_ediv_iff_mul_le hj]
            have : (2 : Int) ^ 40 * j ≤ 2 ^ 40 * 2 ^ 20 := Int.mul_le_mul_of_nonneg_left (by omega) (by decide)
            omega
          omega
        · intro hn _
          rw [toStr_length]
          unfold Builtin.Str.tooLong
          exact decide_eq_false (by omega)
        · rw [mul_toStr]; exact grow_same l (.str _) k
      · cases e'
    | lst ds =>
      have e' : (if j.natAbs < 2 ^ 20 ∧ ds.length * j.toNat ≤ sizeLine then some (D.lst (List.replicate j.toNat ds).flatten, true) else none) = some (d, fr) := e
      split at e'
      · rename_i h
        cases e'
        obtain ⟨p, vs, rfl, hp, r1⟩ := rx.lst l
        exact .inr (.inr ⟨p, j, vs, rfl, ry.int, hp, by omega, by omega, by rw [r1.length]; exact h.2, fun t nt => grow_lst l nt (r1.rep _) k⟩)
      · cases e'
    | _ => cases e
  | _ => cases dx <;> cases e
end Nu
namespace Nu
open PySem PySem.Spec PyProof.Rows L2
variable {C : Cq} {Z Z' F F' H H' : Hp} {σ σ' : St} {ρ ρ' : Rho} {X : Cx} {K : PySem.W.Frag}

/-! ## subscripts and slices -/
theorem Rels.at {vs : List V} {ds : List D} {i : Int} {d : D} (r : Rels K F vs ds) (e : atI ds i = some d) : ∃ v, atI vs i = some v ∧ Rel K F v d := by
  unfold atI at e ⊢
  obtain ⟨j, e1, e2⟩ := Option.bind_eq_some_iff.mp e
  obtain ⟨v, h1, h2⟩ := r.get e2
  exact ⟨v, by rw [r.length, e1]; exact h1, h2⟩
def gIx (a b : D) : Option (D × Bool) := match a, b with
  | .lst ds, .int i => (atI ds i).map fun d => (d, false)
  | .tup ds, .int i => (atI ds i).map fun d => (d, false)
  | .scr ds, .int i => (atI ds i).map fun d => (d, false)
  | .str z, .int i => if z.length ≤ sizeLine then (atI z i).map fun c => (.str [c], false) else none
  | _, _ => none
theorem o_ix : Op2 K (rIx K) gIx := fun F H x y dx dy d fr Q l rx ry e k => by
  cases dy with
  | int i =>
    cases dx with
    | lst ds =>
      obtain ⟨d', e1, e2⟩ := Option.map_eq_some_iff.mp (show (atI ds i).map (fun d => (d, false)) = some (d, fr) from e)
      cases e2
      obtain ⟨a, vs, rfl, ha, rr⟩ := rx.lst l
      obtain ⟨v, h1, h2⟩ := rr.at e1
      exact .inl ⟨a, vs, i, v, rfl, ry.int, .of ha, h1, grow_same l h2 k⟩
    | scr ds =>
      obtain ⟨d', e1, e2⟩ := Option.map_eq_some_iff.mp (show (atI ds i).map (fun d => (d, false)) = some (d, fr) from e)
      cases e2
      obtain ⟨a, vs, rfl, ha, rr⟩ := rx.scr l
      obtain ⟨v, h1, h2⟩ := rr.at e1
      exact .inl ⟨a, vs, i, v, rfl, ry.int, ha, h1, grow_same l h2 k⟩
    | tup ds =>
      obtain ⟨d', e1, e2⟩ := Option.map_eq_some_iff.mp (show (atI ds i).map (fun d => (d, false)) = some (d, fr) from e)
      cases e2
      obtain ⟨a, vs, rfl, ha, _, rr⟩ := rx.tup l
      obtain ⟨v, h1, h2⟩ := rr.at e1
      exact .inr (.inl ⟨a, vs, i, v, rfl, ry.int, ha, h1, grow_same l h2 k⟩)
    | str z =>
      have e' : (if z.length ≤ sizeLine then (atI z i).map fun c => (D.str [c], false) else none) = some (d, fr) := e
      split at e'
      · rename_i hz
        obtain ⟨c, e1, e2⟩ := Option.map_eq_some_iff.mp e'
        cases e2
        refine .inr (.inr ⟨toStr z, i, c.val, rx.str, ry.int, by rw [toStr_length]; exact hz, ?_, ?_⟩)
        · rw [toStr_list]
          unfold atI at e1 ⊢
          obtain ⟨j, e2, e3⟩ := Option.bind_eq_some_iff.mp e1
          rw [List.length_map, e2]
          show (z.map (·.val))[j]? = _
          rw [List.getElem?_map, e3]
          rfl
        · rw [← toStr_one]
          exact grow_same l (.str _) k
      · cases e'
    | _ => cases e
  | _ => cases dx <;> cases e
def cutD {α : Type} (xs : List α) (lo hi : Option Int) : List α := (xs.drop (HT.sIx xs.length 0 lo)).take (HT.sIx xs.length xs.length hi - HT.sIx xs.length 0 lo)
theorem Rels.cut {vs : List V} {ds : List D} (r : Rels K F vs ds) (lo hi : Option Int) : Rels K F (cutV vs lo hi) (cutD ds lo hi) := by
  unfold cutV cutD
  rw [r.length]
  exact (r.drop _).take _
theorem cut_toStr (z : List Cp) (lo hi : Option Int) : cutS (toStr z) lo hi = toStr (cutD z lo hi) := by
  unfold cutS cutD
  rw [toStr_length, toStr_list]
  unfold toStr
  rw [List.map_take, List.map_drop]
def gSl (a : D) (lo hi : Option Int) : Option (D × Bool) := match a with
  | .str z => if z.length ≤ sizeLine then some (.str (cutD z lo hi), false) else none
  | .lst ds => some (.lst (cutD ds lo hi), true)
  | .scr ds => some (.lst (cutD ds lo hi), true)
  | .tup ds => some (.tup (cutD ds lo hi), false)
  | _ => none
abbrev rSl1 (K : PySem.W.Frag) : V → Option Int → Option Int → Hp → VK → Prop := fun x lo hi H Q => rSlS x lo hi H Q ∨ rSlL K x lo hi H Q ∨ rSlA K x lo hi H Q
theorem SlR.or {r r' : V → Option Int → Option Int → Hp → VK → Prop} (h : L2.SlR X r) (h' : L2.SlR X r') : L2.SlR X (fun x lo hi H Q => r x lo hi H Q ∨ r' x lo hi H Q) := by
  intro pins s σ H x v vl vu lo hi sl Q I rx hs pl pu z
  exact z.elim (h pins s σ H x v vl vu lo hi sl Q I rx hs pl pu) (h' pins s σ H x v vl vu lo hi sl Q I rx hs pl pu)
theorem sl_1 : L2.SlR X (rSl1 X.K) := SlR.or sl_str (SlR.or sl_list sl_tupA)
theorem o_sl : OpSl K (rSl1 K) gSl := fun F H x dx d lo hi fr Q l rx e k => by
  cases dx with
  | str z =>
    have e' : (if z.length ≤ sizeLine then some (D.str (cutD z lo hi), false) else none) = some (d, fr) := e
    split at e'
    · rename_i hz
      cases e'
      refine .inl ⟨toStr z, rx.str, by rw [toStr_length]; exact hz, ?_⟩
      rw [cut_toStr]
      exact grow_same l (.str _) k
    · cases e'
  | lst ds =>
    cases e
    obtain ⟨a, vs, rfl, ha, rr⟩ := rx.lst l
    exact .inr (.inl ⟨a, vs, rfl, .of ha, fun p np => grow_lst l np (rr.cut lo hi) k⟩)
  | scr ds =>
    cases e
    obtain ⟨a, vs, rfl, ha, rr⟩ := rx.scr l
    exact .inr (.inl ⟨a, vs, rfl, ha, fun p np => grow_lst l np (rr.cut lo hi) k⟩)
  | tup ds =>
    cases e
    obtain ⟨a, vs, rfl, ha, hf, rr⟩ := rx.tup l
    refine .inr (.inr ⟨a, vs, rfl, ha, fun w => ?_, fun _ p np => grow_tup l np (rr.cut lo hi) k⟩)
    have e2 : cutD ds lo hi = ds := by
      unfold cutD
      rw [← rr.length, w.1, w.2, List.drop_zero, Nat.sub_zero, rr.length, List.take_length]
    rw [e2] at k
    exact grow_same l (.tup hf rr) k
  | _ => cases e
/-! ## built-in functions -/
theorem rls1 {vs : List V} {d : D} (h : Rls K F H vs [d]) : ∃ v, vs = [v] ∧ Rl K F H v d := by
  cases h with
  | cons a b => cases b; exact ⟨_, rfl, a⟩
theorem rls2 {vs : List V} {d e : D} (h : Rls K F H vs [d, e]) : ∃ v w, vs = [v, w] ∧ Rl K F H v d ∧ Rl K F H w e := by
  cases h with
  | cons a b => cases b with | cons b c => cases c; exact ⟨_, _, rfl, a, b⟩
def gLen : List D → Option (D × Bool)
  | [.str z] => if z.length ≤ sizeLine then some (.int z.length, false) else none
  | [.lst ds] => some (.int ds.length, false)
  | [.scr ds] => some (.int ds.length, false)
  | [.tup ds] => some (.int ds.length, false)
  | _ => none
theorem o_len : OpN K (fun xs H Q => ∃ x n, xs = [x] ∧ LenV K x H n ∧ Q (.int n) H) gLen := fun F H xs ds d fr Q l r e k => by
  match ds, r, e with
  | [dx], r, e =>
    obtain ⟨v, rfl, rv⟩ := rls1 r
    cases dx with
    | str z =>
      have e' : (if z.length ≤ sizeLine then some (D.int z.length, false) else none) = some (d, fr) := e
      split at e'
      · rename_i hz
        cases e'
        refine ⟨_, z.length, rfl, ?_, grow_same l (.int _) k⟩
        rw [rv.str]
        exact ⟨by rw [toStr_length]; exact hz, (toStr_length z).symm⟩
      · cases e'
    | lst ds =>
      cases e
      obtain ⟨a, vs, rfl, ha, rr⟩ := rv.lst l
      exact ⟨_, _, rfl, .inl ⟨vs, .of ha, rr.length.symm⟩, grow_same l (.int _) k⟩
    | scr ds =>
      cases e
      obtain ⟨a, vs, rfl, ha, rr⟩ := rv.scr l
      exact ⟨_, _, rfl, .inl ⟨vs, ha, rr.length.symm⟩, grow_same l (.int _) k⟩
    | tup ds =>
      cases e
      obtain ⟨a, vs, rfl, ha, _, rr⟩ := rv.tup l
      exact ⟨_, _, rfl, .inr ⟨vs, ha, rr.length.symm⟩, grow_same l (.int _) k⟩
    | _ => cases e
  | [], _, e => cases e
  | dx :: _ :: _, _, e => cases dx <;> cases e
def gInt : List D → Option (D × Bool)
  | [.int i] => some (.int i, false)
  | [.bl b] => some (.int (if b then 1 else 0), false)
  | _ => none
theorem o_int : OpN K (fun xs H Q => (∃ i, xs = [V.int i] ∧ Q (.int i) H) ∨ ∃ k, xs = [V.bl k] ∧ Q (.int (if k then 1 else 0)) H) gInt := fun F H xs ds d fr Q l r e k => by
  match ds, r, e with
  | [.int i], r, e =>
    obtain ⟨v, rfl, rv⟩ := rls1 r
    cases e
    exact .inl ⟨i, by rw [rv.int], grow_same l (.int _) k⟩
  | [.bl b], r, e =>
    obtain ⟨v, rfl, rv⟩ := rls1 r
    cases e
    exact .inr ⟨b, by rw [rv.bl], grow_same l (.int _) k⟩
def gAbs : List D → Option (D × Bool)
  | [.int i] => some (.int (if i < 0 then -i else i), false)
  | _ => none
theorem o_abs : OpN K (fun xs H Q => ∃ i, xs = [V.int i] ∧ Q (.int (if i < 0 then -i else i)) H) gAbs := fun F H xs ds d fr Q l r e k => by
  match ds, r, e with
  | [.int i], r, e =>
    obtain ⟨v, rfl, rv⟩ := rls1 r
    cases e
    exact ⟨i, by rw [rv.int], grow_same l (.int _) k⟩
def gMax : List D → Option (D × Bool)
  | [.int i, .int j] => some (.int (if j > i then j else i), false)
  | _ => none
def gMin : List D → Option (D × Bool)
  | [.int i, .int j] => some (.int (if j < i then j else i), false)
  | _ => none
theorem o_max : OpN K (fun xs H Q => ∃ i j, xs = [V.int i, V.int j] ∧ Q (.int (if j > i then j else i)) H) gMax := fun F H xs ds d fr Q l r e k => by
  match ds, r, e with
  | [.int i, .int j], r, e =>
    obtain ⟨v, w, rfl, rv, rw'⟩ := rls2 r
    cases e
    exact ⟨i, j, by rw [rv.int, rw'.int], grow_same l (.int _) k⟩
theorem o_min : OpN K (fun xs H Q => ∃ i j, xs = [V.int i, V.int j] ∧ Q (.int (if j < i then j else i)) H) gMin := fun F H xs ds d fr Q l r e k => by
  match ds, r, e with
  | [.int i, .int j], r, e =>
    obtain ⟨v, w, rfl, rv, rw'⟩ := rls2 r
    cases e
    exact ⟨i, j, by rw [rv.int, rw'.int], grow_same l (.int _) k⟩
def bools : List D → Option (List Bool)
  | [] => some []
  | .bl b :: r => (bools r).map (b :: ·)
  | _ :: _ => none
theorem Rels.bools : ∀ {vs : List V} {ds : List D} {bs : List Bool}, Rels K F vs ds → Nu.bools ds = some bs → vs = bs.map V.bl
  | _, _, _, .nil, e => by cases e; rfl
  | _, _, _, .cons (d := .bl b) (ds := ds) h r, e => by
    obtain ⟨q, e1, e2⟩ := Option.map_eq_some_iff.mp (show (Nu.bools ds).map (b :: ·) = _ from e)
    cases e2
    cases h
    rw [Rels.bools r e1]
    rfl
  | _, _, _, .cons (d := .non) _ _, e => by cases e
  | _, _, _, .cons (d := .int _) _ _, e => by cases e
  | _, _, _, .cons (d := .str _) _ _, e => by cases e
  | _, _, _, .cons (d := .ty _) _ _, e => by cases e
  | _, _, _, .cons (d := .tup _) _ _, e => by cases e
  | _, _, _, .cons (d := .lst _) _ _, e => by cases e
  | _, _, _, .cons (d := .scr _) _ _, e => by cases e
  | _, _, _, .cons (d := .obj _ _) _ _, e => by cases e
@[simp] theorem bools_map (bs : List Bool) : bools (bs.map D.bl) = some bs := by
  induction bs with
  | nil => rfl
  | cons b r ih => rw [List.map_cons, bools, ih]; rfl
def gAll : List D → Option (D × Bool)
  | [.lst ds] => (bools ds).map fun bs => (.bl (bs.all id), false)
  | _ => none
def gAny : List D → Option (D × Bool)
  | [.lst ds] => (bools ds).map fun bs => (.bl (bs.any id), false)
  | _ => none
theorem o_all : OpN K (rAll K) gAll := fun F H xs ds d fr Q l r e k => by
  match ds, r, e with
  | [.lst ds], r, e =>
    obtain ⟨v, rfl, rv⟩ := rls1 r
    obtain ⟨bs, e1, e2⟩ := Option.map_eq_some_iff.mp (show (bools ds).map (fun bs => (D.bl (bs.all id), false)) = some (d, fr) from e)
    cases e2
    obtain ⟨a, vs, rfl, ha, rr⟩ := rv.lst l
    exact ⟨a, bs, rfl, by rw [← rr.bools e1]; exact .of ha, grow_same l (.bl _) k⟩
theorem o_any : OpN K (rAny K) gAny := fun F H xs ds d fr Q l r e k => by
  match ds, r, e with
  | [.lst ds], r, e =>
    obtain ⟨v, rfl, rv⟩ := rls1 r
    obtain ⟨bs, e1, e2⟩ := Option.map_eq_some_iff.mp (show (bools ds).map (fun bs => (D.bl (bs.any id), false)) = some (d, fr) from e)
    cases e2
    obtain ⟨a, vs, rfl, ha, rr⟩ := rv.lst l
    exact ⟨a, bs, rfl, by rw [← rr.bools e1]; exact .of ha, grow_same l (.bl _) k⟩
def intsOf : List D → Option (List Int)
  | [] => some []
  | .int b :: r => (intsOf r).map (b :: ·)
  | _ :: _ => none
theorem Rels.intsOf : ∀ {vs : List V} {ds : List D} {bs : List Int}, Rels K F vs ds → Nu.intsOf ds = some bs → vs = bs.map V.int
  | _, _, _, .nil, e => by cases e; rfl
  | _, _, _, .cons (d := .int b) (ds := ds) h r, e => by
    obtain ⟨q, e1, e2⟩ := Option.map_eq_some_iff.mp (show (Nu.intsOf ds).map (b :: ·) = _ from e)
    cases e2
    cases h
    rw [Rels.intsOf r e1]
    rfl
  | _, _, _, .cons (d := .non) _ _, e => by cases e
  | _, _, _, .cons (d := .bl _) _ _, e => by cases e
  | _, _, _, .cons (d := .str _) _ _, e => by cases e
  | _, _, _, .cons (d := .ty _) _ _, e => by cases e
  | _, _, _, .cons (d := .tup _) _ _, e => by cases e
  | _, _, _, .cons (d := .lst _) _ _, e => by cases e
  | _, _, _, .cons (d := .scr _) _ _, e => by cases e
  | _, _, _, .cons (d := .obj _ _) _ _, e => by cases e
@[simp] theorem intsOf_map (bs : List Int) : intsOf (bs.map D.int) = some bs := by
  induction bs with
  | nil => rfl
  | cons b r ih => rw [List.map_cons, intsOf, ih]; rfl
def gSum : List D → Option (D × Bool)
  | [.lst ds] => (intsOf ds).map fun bs => (.int bs.sum, false)
  | _ => none
theorem o_sum : OpN K (rSum K) gSum := fun F H xs ds d fr Q l r e k => by
  match ds, r, e with
  | [.lst ds], r, e =>
    obtain ⟨v, rfl, rv⟩ := rls1 r
    obtain ⟨bs, e1, e2⟩ := Option.map_eq_some_iff.mp (show (intsOf ds).map (fun bs => (D.int bs.sum, false)) = some (d, fr) from e)
    cases e2
    obtain ⟨a, vs, rfl, ha, rr⟩ := rv.lst l
    exact ⟨a, bs, rfl, by rw [← rr.intsOf e1]; exact .of ha, grow_same l (.int _) k⟩
/-! ### list(..), tuple(..) -/
theorem vals_str : ∀ {ds : List Nat} {us : List Value}, (∀ (j : Nat) (u : Value), us[j]? = some u → ∃ c t, ds[j]? = some c ∧ u = .str ⟨#[c]⟩ t) → us.length = ds.length → Vals (ds.map fun c => V.str ⟨#[c]⟩) us
  | [], us, _, e => by
    cases us with
    | nil => exact .nil
    | cons _ _ => simp at e
  | c :: ds, us, h, e => by
    cases us with
    | nil => simp at e
    | cons u us =>
      obtain ⟨c', t, e1, e2⟩ := h 0 u rfl
      cases e1
      exact .cons ⟨t, e2⟩ (vals_str (fun j u' hu => by
        obtain ⟨c2, t2, h1, h2⟩ := h (j + 1) u' (by simpa using hu)
        exact ⟨c2, t2, by simpa using h1, h2⟩) (by simpa using e))
theorem call_listS (hc : X.calm = true) : CallR X (.type "list") (fun xs H Q => ∃ z : Str, xs = [V.str z] ∧ z.length ≤ sizeLine ∧ ∀ l, H l = none → Q (.ref l) (upd H l (.lst (z.cps.toList.map fun c => V.str ⟨#[c]⟩)))) := by
  intro pins s σ H xs us Q I r h
  obtain ⟨z, rfl, hz, q⟩ := h
  obtain ⟨u, rfl, t, rfl⟩ := vals1 r
  refine call_list_str (I.ok.hd hc) z t (hn := hz) fun h' tk acc' c' hk hS' hacc => ?_
  refine ⟨.ref s.heap.objs.size, _, I.laid (o := .lst (z.cps.toList.map fun c => V.str ⟨#[c]⟩)) (t' := tk) hk (Nat.le_refl _) (show ObjOk X.prog X.w _ h' s.heap.objs.size (.lst (z.cps.toList.map fun c => V.str ⟨#[c]⟩)) from ⟨?_, acc'.toList, c', ?_, ?_⟩), rfl, q _ I.fresh⟩
  · rw [List.length_map]; exact hz
  · refine vals_str (fun j u hu => ?_) ?_
    · obtain ⟨c, t, h1, h2⟩ := hacc.2 j u (by simpa using hu)
      exact ⟨c, t, by simpa using h1, h2⟩
    · simpa using hacc.1
  · simpa using hS'
def gList : List D → Option (D × Bool)
  | [.lst ds] => some (.lst ds, true)
  | [.scr ds] => some (.lst ds, true)
  | [.tup ds] => some (.lst ds, true)
  | [.str z] => if z.length ≤ sizeLine then some (.lst (chars z), true) else none
  | _ => none
theorem rels_chars (z : List Cp) : Rels K F ((toStr z).cps.toList.map fun c => V.str ⟨#[c]⟩) (chars z) := by
  rw [toStr_list]
  induction z with
  | nil => exact .nil
  | cons c r ih => exact .cons (.str [c]) ih
abbrev rList1 (K : PySem.W.Frag) : List V → Hp → VK → Prop := fun xs H Q => (∃ p ys, xs = [V.ref p] ∧ (SqL K H p ys ∨ SqT K H p ys) ∧ ∀ l, H l = none → Q (.ref l) (upd H l (.lst ys))) ∨ ∃ z : Str, xs = [V.str z] ∧ z.length ≤ sizeLine ∧ ∀ l, H l = none → Q (.ref l) (upd H l (.lst (z.cps.toList.map fun c => V.str ⟨#[c]⟩)))
theorem call_list1 (hc : X.calm = true) : CallR X (.type "list") (rList1 X.K) := CallR.or call_list_of (call_listS hc)
theorem o_list : OpN K (rList1 K) gList := fun F H xs ds d fr Q l r e k => by
  match ds, r, e with
  | [.lst ds], r, e =>
    obtain ⟨v, rfl, rv⟩ := rls1 r
    cases e
    obtain ⟨a, vs, rfl, ha, rr⟩ := rv.lst l
    exact .inl ⟨a, vs, rfl, .inl (.of ha), fun p np => grow_lst l np rr k⟩
  | [.scr ds], r, e =>
    obtain ⟨v, rfl, rv⟩ := rls1 r
    cases e
    obtain ⟨a, vs, rfl, ha, rr⟩ := rv.scr l
    exact .inl ⟨a, vs, rfl, .inl ha, fun p np => grow_lst l np rr k⟩
  | [.tup ds], r, e =>
    obtain ⟨v, rfl, rv⟩ := rls1 r
    cases e
    obtain ⟨a, vs, rfl, ha, _, rr⟩ := rv.tup l
    exact .inl ⟨a, vs, rfl, .inr ha, fun p np => grow_lst l np rr k⟩
  | [.str z], r, e =>
    obtain ⟨v, rfl, rv⟩ := rls1 r
    have e' : (if z.length ≤ sizeLine then some (D.lst (chars z), true) else none) = some (d, fr) := e
    split at e'
    · rename_i hz
      cases e'
      exact .inr ⟨toStr z, by rw [rv.str], by rw [toStr_length]; exact hz, fun p np => grow_lst l np (rels_chars z) k⟩
    · cases e'
def gTuple : List D → Option (D × Bool)
  | [.lst ds] => some (.tup ds, false)
  | [.scr ds] => some (.tup ds, false)
  | [.tup ds] => some (.tup ds, false)
  | _ => none
theorem o_tuple : OpN K (fun xs H Q => ∃ p ys, xs = [V.ref p] ∧ ((SqL K H p ys ∧ ∀ l, H l = none → Q (.ref l) (upd H l (.tup ys))) ∨ (SqT K H p ys ∧ Q (.ref p) H))) gTuple := fun F H xs ds d fr Q l r e k => by
  match ds, r, e with
  | [.lst ds], r, e =>
    obtain ⟨v, rfl, rv⟩ := rls1 r
    cases e
    obtain ⟨a, vs, rfl, ha, rr⟩ := rv.lst l
    exact ⟨a, vs, rfl, .inl ⟨.of ha, fun p np => grow_tup l np rr k⟩⟩
  | [.scr ds], r, e =>
    obtain ⟨v, rfl, rv⟩ := rls1 r
    cases e
    obtain ⟨a, vs, rfl, ha, rr⟩ := rv.scr l
    exact ⟨a, vs, rfl, .inl ⟨ha, fun p np => grow_tup l np rr k⟩⟩
  | [.tup ds], r, e =>
    obtain ⟨v, rfl, rv⟩ := rls1 r
    cases e
    obtain ⟨a, vs, rfl, ha, hf, rr⟩ := rv.tup l
    exact ⟨a, vs, rfl, .inr ⟨ha, grow_same l (.tup hf rr) k⟩⟩
/-! ### isinstance of built-in types -/
def tyD : D → Option String
  | .non => some "NoneType"
  | .bl _ => some "bool"
  | .int _ => some "int"
  | .str _ => some "str"
  | .tup _ => some "tuple"
  | .lst _ => some "list"
  | .scr _ => some "list"
  | _ => none
theorem tyX_sqT {a : Addr} {vs : List V} (h : SqT K H a vs) : TyX K H (.ref a) (.type "tuple") := by
  rcases h with (h | ⟨o, h⟩) | ⟨o, its, n, h1, h2, _⟩
  · exact .base (.tup h)
  · exact .fTuple h
  · exact .kTuple h1 h2
theorem tyX_sqL {a : Addr} {vs : List V} (h : SqL K H a vs) : TyX K H (.ref a) (.type "list") := by
  rcases h with (h | ⟨o, h⟩) | ⟨o, its, n, h1, h2, _⟩
  · exact .base (.lst h)
  · exact .base (.frz h)
  · exact .kList h1 h2
theorem Rl.tyX {v : V} {d : D} {t : String} (l : Le F H) (h : Rl K F H v d) (e : tyD d = some t) : TyX K H v (.type t) := by
  cases d with
  | non => cases e; rw [h.non]; exact .base .non
  | bl b => cases e; rw [h.bl]; exact .base (.bl _)
  | int b => cases e; rw [h.int]; exact .base (.int _)
  | str b => cases e; rw [h.str]; exact .base (.str _)
  | tup ds =>
    cases e
    obtain ⟨a, vs, rfl, ha, _, _⟩ := h.tup l
    exact tyX_sqT ha
  | lst ds =>
    cases e
    obtain ⟨a, vs, rfl, ha, _⟩ := h.lst l
    exact .base (.lst ha)
  | scr ds =>
    cases e
    obtain ⟨a, vs, rfl, ha, _⟩ := h.scr l
    exact tyX_sqL ha
  | _ => cases e
/-- the answers among built-in types -/
def isT (t u : String) : Option Bool :=
  if t = u then some true else if t = "bool" ∧ u = "int" then some true else
  if t ∈ ["NoneType", "bool", "int", "str", "tuple", "list"] ∧ u ∈ ["bool", "int", "str", "tuple", "list"] then some false else none
theorem isT_ok {t u : String} {b : Bool} (e : isT t u = some b) : PySem.W.kitOne K (.type t) (.type u) = some b := by
  unfold isT at e
  split at e
  · rename_i h
    subst h
    cases e
    unfold PySem.W.kitOne
    rw [if_pos (by simp)]
  · split at e
    · rename_i h
      obtain ⟨rfl, rfl⟩ := h
      cases e
      kernel_rfl
    · rename_i hne hb
      split at e
      · rename_i h
        cases e
        simp only [List.mem_cons, List.mem_nil_iff, or_false] at h
        obtain ⟨h1, h2⟩ := h
        rcases h1 with rfl | rfl | rfl | rfl | rfl | rfl <;> rcases h2 with rfl | rfl | rfl | rfl | rfl <;>
          first | exact absurd rfl hne | exact absurd ⟨rfl, rfl⟩ hb | kernel_rfl
      · cases e
def gIsi : List D → Option (D × Bool)
  | [x, .ty u] => (tyD x).bind fun t => (isT t u).map fun b => (.bl b, false)
  | _ => none
theorem o_isi : OpN K (rIsi K) gIsi := fun F H xs ds d fr Q l r e k => by
  match ds, r, e with
  | [x, .ty u], r, e =>
    obtain ⟨v, w, rfl, rv, rw'⟩ := rls2 r
    obtain ⟨t, e1, e2⟩ := Option.bind_eq_some_iff.mp (show (tyD x).bind (fun t => (isT t u).map fun b => (D.bl b, false)) = some (d, fr) from e)
    obtain ⟨b, e3, e4⟩ := Option.map_eq_some_iff.mp e2
    cases e4
    refine ⟨v, w, .type t, .type u, b, rfl, ?_, rv.tyX l e1, isT_ok e3, grow_same l (.bl _) k⟩
    rw [rw'.ty]
    exact .ty u
end Nu
namespace Nu
open PySem PySem.Spec PyProof.Rows L2
variable {C : Cq} {Z Z' F F' H H' : Hp} {σ σ' : St} {ρ ρ' : Rho} {X : Cx} {K : PySem.W.Frag}

/-! ## mutators on owned lists -/
def OpM (K : PySem.W.Frag) (r : V → List V → Hp → VK → Prop) (g : D → List D → Option (D × D)) : Prop :=
  ∀ (F H : Hp) (a : Addr) (xs : List V) (dx : D) (ds : List D) (res new : D) (Q : VK), Le F H → F a = none → OwnO K F H a dx → Rels K F xs ds → g dx ds = some (res, new) → (∀ o' v, OwnO K F (upd H a o') a new → Rel K F v res → Q v (upd H a o')) → r (.ref a) xs H Q
def isLst : Option (Option (D × Kd)) → Bool
  | some (some (.lst _, k)) => decide (k ≠ .sh)
  | _ => false
def mutAt (g : D → List D → Option (D × D)) (i : Nat) (ρ : Rho) (ds : List D) : Option (D × Rho) :=
  match ρ[i]? with
  | some (some (d, k)) => if k = .sh then none else (g d ds).map fun p => (p.1, ρ.set i (some (p.2, k)))
  | _ => none
def sMut (g : D → List D → Option (D × D)) (i : Nat) (fa : Rho → R (List Opd)) (ρ : Rho) : R (D × Bool) :=
  if isLst ρ[i]? = true then (fa ρ).bind fun os ρ1 => match (vals os).bind (mutAt g i ρ1) with
    | some p => .ok (p.1, false) p.2
    | none => .err
  else .err
theorem mut_core {r : V → List V → Hp → VK → Prop} {g : D → List D → Option (D × D)} {i : Nat} {os : List Opd} {vs : List V} {v : V} {Q : VK} (ho : OpM C.K r g) (S : SR C.K C.P Z F σ ρ H) (hv : σ[i]? = some (some v)) (ro : Ops C.K F σ vs os)
    (m : At C (relE C.K) Z F σ Q (match (vals os).bind (mutAt g i ρ) with
    | some p => .ok (p.1, false) p.2
    | none => .err)) : r v vs H Q := by
  cases e : (vals os).bind (mutAt g i ρ) with
  | none => rw [e] at m; exact m.elim
  | some p =>
    rw [e] at m
    obtain ⟨ds, e1, e2⟩ := Option.bind_eq_some_iff.mp e
    unfold mutAt at e2
    split at e2
    · rename_i d k hi
      split at e2
      · cases e2
      · rename_i hk
        obtain ⟨q, e3, e4⟩ := Option.map_eq_some_iff.mp e2
        subst e4
        obtain ⟨a, rfl, ow⟩ := own_of_slot S hi hk hv
        exact ho F H a vs d ds q.1 q.2 Q S.fh ow.nf ow.at_ (vals_rels ro e1) e3 fun o' w new rw' => m F _ w (Evl.Ex.refl F) (S.put hi hk hv new) rw'
    · cases e2
theorem de_mut {r : V → List V → Hp → VK → Prop} {g : D → List D → Option (D × D)} {id : String} {name : Str} {i : Nat} {o e : Expr} {es : List Expr} {fa : Rho → R (List Opd)} {apos cpos : Pos} (slot : Slot "list" name id) (hty : typeOf (.builtin id) = pure (.type "method_descriptor")) (hm : MtM X id r) (h2 : OpM C.K r g) (ho : PE X o (tVar i)) (ha : PA X (e :: es) (tA C fa))
    (hbase : attributeBase o name X.env (eval o X.env) = eval o X.env := by rfl)
    (hfew : ((backTo cpos (starEach (e :: es) X.env)).all (fun x => !x.1) && (backToKw cpos (keywordEach [] X.env)).all (fun x => x.1.isSome)
      && decide ((e :: es).length + ([] : List Keyword).length + (if ([] : List Keyword).isEmpty then 0 else 1) < 30)) = true := by rfl)
    (hline : (apos.endLine == cpos.line) = true := by rfl) (hs : starEach (e :: es) X.env = (false, eval e X.env) :: starEach es X.env := by rfl) (hplain : (backTo cpos (starEach es X.env)).any (·.1) = false := by rfl) :
    PE X (.Call (.Attribute o name apos) (e :: es) [] cpos) (tE C (sMut g i fa)) :=
  PE.imp (pe_bm PySem.F.plainAttrs_list slot hty hm ho ha hbase hfew hline hs hplain) fun σ H Q ⟨Z, F, ρ, S, m⟩ => by
    unfold sMut at m
    split at m
    · rename_i hl
      unfold isLst at hl
      split at hl
      · rename_i ds k hi
        have hk : k ≠ .sh := of_decide_eq_true hl
        obtain ⟨v, hv, _⟩ := S.sl i _ _ hi
        obtain ⟨a, rfl, ow⟩ := own_of_slot S hi hk hv
        obtain ⟨vs, ha', _⟩ := ow.at_
        exact ⟨_, hv, .inl ⟨rfl, vs, .of ha'⟩, tG.step S m fun os ρ1 F1 H1 ws l S1 ro m1 => mut_core h2 S1 hv ro m1⟩
      · cases hl
    · exact m.elim
theorem de_mut0 {r : V → List V → Hp → VK → Prop} {g : D → List D → Option (D × D)} {id : String} {name : Str} {i : Nat} {o : Expr} {apos cpos : Pos} (slot : Slot "list" name id) (hty : typeOf (.builtin id) = pure (.type "method_descriptor")) (hm : MtM X id r) (h2 : OpM C.K r g) (ho : PE X o (tVar i))
    (hbase : attributeBase o name X.env (eval o X.env) = eval o X.env := by rfl) (hline : (apos.endLine == cpos.line) = true := by rfl) : PE X (.Call (.Attribute o name apos) [] [] cpos) (tE C (sMut g i sNil)) :=
  PE.imp (pe_bm0 PySem.F.plainAttrs_list slot hty hm ho hbase hline) fun σ H Q ⟨Z, F, ρ, S, m⟩ => by
    unfold sMut at m
    split at m
    · rename_i hl
      unfold isLst at hl
      split at hl
      · rename_i ds k hi
        have hk : k ≠ .sh := of_decide_eq_true hl
        obtain ⟨v, hv, _⟩ := S.sl i _ _ hi
        obtain ⟨a, rfl, ow⟩ := own_of_slot S hi hk hv
        obtain ⟨vs, ha', _⟩ := ow.at_
        exact ⟨_, hv, .inl ⟨rfl, vs, .of ha'⟩, mut_core h2 S hv .nil m⟩
      · cases hl
    · exact m.elim
theorem Rels.erase : ∀ {vs : List V} {ds : List D} (i : Nat), Rels K F vs ds → Rels K F (vs.eraseIdx i) (ds.eraseIdx i)
  | _, _, _, .nil => .nil
  | _, _, 0, .cons _ t => t
  | _, _, i + 1, .cons r t => .cons r (Rels.erase i t)
theorem Rels.dropLast : ∀ {vs : List V} {ds : List D}, Rels K F vs ds → Rels K F vs.dropLast ds.dropLast
  | _, _, .nil => .nil
  | _, _, .cons r .nil => .nil
  | _, _, .cons r (.cons q t) => .cons r (Rels.dropLast (.cons q t))
def gApp (a : D) (xs : List D) : Option (D × D) := match a, xs with
  | .lst ds, [x] => if ds.length < sizeLine then some (.non, .lst (ds ++ [x])) else none
  | _, _ => none
/-- what is kept must be frozen -/
def gPop (a : D) (xs : List D) : Option (D × D) := match a, xs with
  | .lst ds, [] => ds.getLast?.map fun d => (d, .lst ds.dropLast)
  | .lst ds, [.int i] => (ixN ds.length i).bind fun j => ds[j]?.map fun d => (d, .lst (ds.eraseIdx j))
  | _, _ => none
theorem seqIndex_ixN {i : Int} {n j : Nat} (h : ixN n i = some j) : seqIndex? i n = some j ∧ -(n : Int) ≤ i ∧ i < n := by
  unfold ixN at h
  unfold seqIndex?
  by_cases h0 : 0 ≤ i
  · rw [if_pos h0] at h
    by_cases h1 : i < n
    · rw [if_pos h1] at h
      cases h
      refine ⟨?_, by omega, by omega⟩
      have e : (if i < 0 then i + (n : Int) else i) = i := if_neg (by omega)
      simp only [e]
      rw [if_pos (by simp; omega)]
    · rw [if_neg h1] at h; cases h
  · rw [if_neg h0] at h
    by_cases h1 : -(n : Int) ≤ i
    · rw [if_pos h1] at h
      cases h
      refine ⟨?_, by omega, by omega⟩
      have e : (if i < 0 then i + (n : Int) else i) = i + n := if_pos (by omega)
      simp only [e]
      rw [if_pos (by simp; omega)]
    · rw [if_neg h1] at h; cases h
theorem rels1 {vs : List V} {d : D} (h : Rels K F vs [d]) : ∃ v, vs = [v] ∧ Rel K F v d := by
  cases h with
  | cons a b => cases b; exact ⟨_, rfl, a⟩
def gPop0 (a : D) (xs : List D) : Option (D × D) := match a, xs with
  | .lst ds, [] => ds.getLast?.map fun d => (d, .lst ds.dropLast)
  | _, _ => none
def gPopI (a : D) (xs : List D) : Option (D × D) := match a, xs with
  | .lst ds, [.int i] => if ds.length ≤ sizeLine then (ixN ds.length i).bind fun j => ds[j]?.map fun d => (d, .lst (ds.eraseIdx j)) else none
  | _, _ => none
def gExt (a : D) (xs : List D) : Option (D × D) := match a, xs with
  | .lst ds, [.lst es] => if ds.length + es.length ≤ sizeLine then some (.non, .lst (ds ++ es)) else none
  | _, _ => none
theorem m_pop0 : OpM K rPop gPop0 := fun F H a xs dx ds res new Q l nf ow r e k => by
  match dx, ds, ow, r, e with
  | .lst ds, [], ow, r, e =>
    cases r
    obtain ⟨d, e1, e2⟩ := Option.map_eq_some_iff.mp (show ds.getLast?.map (fun d => (d, D.lst ds.dropLast)) = some (res, new) from e)
    cases e2
    obtain ⟨vs, ha, rr⟩ := ow
    rw [List.getLast?_eq_getElem?] at e1
    obtain ⟨v, h1, h2⟩ := rr.get e1
    exact ⟨a, vs, v, rfl, rfl, ha, by rw [rr.length]; exact h1, k _ _ ⟨_, upd_same, rr.dropLast⟩ h2⟩
theorem m_popI : OpM K rPopAt gPopI := fun F H a xs dx ds res new Q l nf ow r e k => by
  match dx, ds, ow, r, e with
  | .lst ds, [.int i], ow, r, e =>
    obtain ⟨v, rfl, rv⟩ := rels1 r
    cases rv
    have e' : (if ds.length ≤ sizeLine then (ixN ds.length i).bind fun j => ds[j]?.map fun d => (d, D.lst (ds.eraseIdx j)) else none) = some (res, new) := e
    split at e'
    · rename_i hl
      obtain ⟨j, e1, e2⟩ := Option.bind_eq_some_iff.mp e'
      obtain ⟨d, e3, e4⟩ := Option.map_eq_some_iff.mp e2
      cases e4
      obtain ⟨vs, ha, rr⟩ := ow
      obtain ⟨w, h1, h2⟩ := rr.get e3
      obtain ⟨q1, q2, q3⟩ := seqIndex_ixN e1
      have hs := sizeLine_eq
      exact ⟨a, vs, i, j, w, rfl, rfl, ha, by omega, by omega, by rw [rr.length]; exact q1, h1, k _ _ ⟨_, upd_same, rr.erase j⟩ h2⟩
    · cases e'
theorem m_app : OpM K rAppend gApp := fun F H a xs dx ds res new Q l nf ow r e k => by
  match dx, ds, ow, r, e with
  | .lst ds, [x], ow, r, e =>
    obtain ⟨v, rfl, rv⟩ := rels1 r
    have e' : (if ds.length < sizeLine then some (D.non, D.lst (ds ++ [x])) else none) = some (res, new) := e
    split at e'
    · rename_i hl
      cases e'
      obtain ⟨vs, ha, rr⟩ := ow
      exact ⟨a, vs, v, rfl, rfl, ha, by rw [rr.length]; exact hl, k _ _ ⟨_, upd_same, rr.append (.cons rv .nil)⟩ .non⟩
    · cases e'
theorem m_ext : OpM K rExtend gExt := fun F H a xs dx ds res new Q l nf ow r e k => by
  match dx, ds, ow, r, e with
  | .lst ds, [.lst es], ow, r, e =>
    obtain ⟨v, rfl, rv⟩ := rels1 r
    have e' : (if ds.length + es.length ≤ sizeLine then some (D.non, D.lst (ds ++ es)) else none) = some (res, new) := e
    split at e'
    · rename_i hl
      cases e'
      obtain ⟨vs, ha, rr⟩ := ow
      cases rv with
      | lst hb rb => exact ⟨a, _, vs, _, rfl, rfl, ha, l _ _ hb, by rw [rr.length, rb.length]; exact hl, k _ _ ⟨_, upd_same, rr.append rb⟩ .non⟩
    · cases e'
section
variable {i : Nat} {o e : Expr} {fa : Rho → R (List Opd)} {apos cpos : Pos}
theorem de_append (ho : PE X o (tVar i)) (ha : PA X [e] (tA C fa)) (hbase : attributeBase o "append" X.env (eval o X.env) = eval o X.env := by rfl)
    (hfew : ((backTo cpos (starEach [e] X.env)).all (fun x => !x.1) && (backToKw cpos (keywordEach [] X.env)).all (fun x => x.1.isSome)
      && decide ([e].length + ([] : List Keyword).length + (if ([] : List Keyword).isEmpty then 0 else 1) < 30)) = true := by rfl)
    (hline : (apos.endLine == cpos.line) = true := by rfl) (hs : starEach [e] X.env = (false, eval e X.env) :: starEach [] X.env := by rfl) (hplain : (backTo cpos (starEach [] X.env)).any (·.1) = false := by rfl) :
    PE X (.Call (.Attribute o "append" apos) [e] [] cpos) (tE C (sMut gApp i fa)) := de_mut PySem.F.slot_list_append PySem.F.type_list_append mt_append m_app ho ha hbase hfew hline hs hplain
theorem de_extend (ho : PE X o (tVar i)) (ha : PA X [e] (tA C fa)) (hbase : attributeBase o "extend" X.env (eval o X.env) = eval o X.env := by rfl)
    (hfew : ((backTo cpos (starEach [e] X.env)).all (fun x => !x.1) && (backToKw cpos (keywordEach [] X.env)).all (fun x => x.1.isSome)
      && decide ([e].length + ([] : List Keyword).length + (if ([] : List Keyword).isEmpty then 0 else 1) < 30)) = true := by rfl)
    (hline : (apos.endLine == cpos.line) = true := by rfl) (hs : starEach [e] X.env = (false, eval e X.env) :: starEach [] X.env := by rfl) (hplain : (backTo cpos (starEach [] X.env)).any (·.1) = false := by rfl) :
    PE X (.Call (.Attribute o "extend" apos) [e] [] cpos) (tE C (sMut gExt i fa)) := de_mut PySem.F.slot_list_extend PySem.F.type_list_extend mt_extend m_ext ho ha hbase hfew hline hs hplain
theorem de_popI (ho : PE X o (tVar i)) (ha : PA X [e] (tA C fa)) (hbase : attributeBase o "pop" X.env (eval o X.env) = eval o X.env := by rfl)
    (hfew : ((backTo cpos (starEach [e] X.env)).all (fun x => !x.1) && (backToKw cpos (keywordEach [] X.env)).all (fun x => x.1.isSome)
      && decide ([e].length + ([] : List Keyword).length + (if ([] : List Keyword).isEmpty then 0 else 1) < 30)) = true := by rfl)
    (hline : (apos.endLine == cpos.line) = true := by rfl) (hs : starEach [e] X.env = (false, eval e X.env) :: starEach [] X.env := by rfl) (hplain : (backTo cpos (starEach [] X.env)).any (·.1) = false := by rfl) :
    PE X (.Call (.Attribute o "pop" apos) [e] [] cpos) (tE C (sMut gPopI i fa)) := de_mut PySem.F.slot_list_pop PySem.F.type_list_pop mt_popAt m_popI ho ha hbase hfew hline hs hplain
theorem de_pop0 (ho : PE X o (tVar i)) (hbase : attributeBase o "pop" X.env (eval o X.env) = eval o X.env := by rfl) (hline : (apos.endLine == cpos.line) = true := by rfl) :
    PE X (.Call (.Attribute o "pop" apos) [] [] cpos) (tE C (sMut gPop0 i sNil)) := de_mut0 PySem.F.slot_list_pop PySem.F.type_list_pop mt_pop m_pop0 ho hbase hline
end
/-! ## xs[i] = v -/
def setIx (i : Nat) (x d : D) (ρ : Rho) : Option Rho :=
  match ρ[i]?, x with
  | some (some (.lst ds, k)), .int n => if k = .sh then none else (ixN ds.length n).map fun j => ρ.set i (some (.lst (ds.set j d), k))
  | _, _ => none
def sSetIx (i : Nat) (fi fv : Rho → R (D × Bool)) (ρ : Rho) : Ss := Rx (fv ρ) fun a ρ1 => if isLst ρ1[i]? = true then Rx (fi ρ1) fun b ρ2 => (match setIx i b.1 a.1 ρ2 with
  | some ρ3 => .nx ρ3
  | none => .err) else .err
theorem rv_int' {i : Int} {b : Bool} {v : V} (S : SR K C.P Z F σ ρ H) (h : RvR K Z F H σ ρ v (.int i) b) : v = .int i := by
  cases b with
  | false => cases (show Rel K F v (.int i) from h); rfl
  | true => obtain ⟨a, _, w, _⟩ := h; exact w.at_.elim
theorem ds_setIx {i : Nat} {o ix value : Expr} {fi fv : Rho → R (D × Bool)} {pos pos' : Pos} (ho : PE X o (tVar i)) (hi : PE X ix (tE C fi)) (hv : PE X value (tE C fv)) (hs : swapsWithSole [.Subscript o ix pos'] value pos.line X.env = pure false := by rfl)
    (hw : swappedStores [.Subscript o ix pos'] value X.env = pure none := by rfl) (h1 : (assignEach [.Subscript o ix pos'] X.env).map (·.2) = [assign (.Subscript o ix pos') X.env] := by rfl)
    (ha : ∀ v, assign (.Subscript o ix pos') X.env v = (do
      let ov ← holding [v] (eval o X.env)
      let iv ← holding [v, ov] (eval ix X.env)
      standAt pos'
      holding [v, ov, iv] (setItem ov iv v)
      release [v, ov, iv] []) := by intro _; rfl) : PS X (.Assign [.Subscript o ix pos'] value pos) (tS C (sSetIx i fi fv)) :=
  PS.imp (ps_asg hv (pg_sub ho hi set_list ha) hs hw h1) fun E σ H ⟨Z, F, ρ, S, m⟩ => tG.stepS S m fun a ρ1 F1 H1 v l S1 r m1 => by
    obtain ⟨F2, l2, S2, w⟩ := RvR.share S1 r
    split at m1
    case isFalse => exact m1.elim
    rename_i hl
    have key : ∀ v', σ[i]? = some (some v') → tG C (relE C.K) fi σ H1 fun iv H2 => rSetL v' iv v H2 fun H3 => E.nx σ H3 := fun v' hv' =>
      tG.stepS S2 (AtS.mono l2 m1) fun b ρ2 F3 H3 iv l3 S3 rb m2 => by
        cases e : setIx i b.1 a.1 ρ2 with
        | none => simp only [e] at m2; exact m2.elim
        | some ρ3 =>
          simp only [e] at m2
          obtain ⟨bd, bf⟩ := b
          unfold setIx at e
          split at e
          · rename_i ds k n hi' hb
            split at e
            · cases e
            · rename_i hk
              obtain ⟨j, e1, e2⟩ := Option.map_eq_some_iff.mp e
              subst e2
              obtain ⟨p, rfl, ow⟩ := own_of_slot S3 hi' hk hv'
              obtain ⟨vs, hp, rr⟩ := ow.at_
              have hb' : bd = .int n := hb
              subst hb'
              refine ⟨p, vs, n, j, rfl, rv_int' S3 rb, hp, by rw [rr.length]; exact e1, ?_⟩
              exact m2 F3 _ σ (Evl.Ex.refl F3) (S3.put hi' hk hv' ⟨_, upd_same, rr.set (w.mono l3) j⟩)
          · cases e
    unfold isLst at hl
    split at hl
    · rename_i ds k hi'
      obtain ⟨v', hv', _⟩ := S2.sl i _ _ hi'
      exact ⟨v', hv', key v' hv'⟩
    · cases hl
/-! ## a, b = x, y -/
def sPar (i j : Nat) (g : Rho → R (List Opd)) (ρ : Rho) : Ss := Rx (g ρ) fun os ρ1 => match vals os with
  | some [d, e] => (match (put1 i d ρ1).bind (put1 j e) with
    | some ρ2 => .nx ρ2
    | none => .err)
  | _ => .err
theorem SR.put1 {P : Nat → Addr} {i : Nat} {d : D} {v : V} (S : SR K P Z F σ ρ H) (r : Rel K F v d) (e : Nu.put1 i d ρ = some ρ') : SR K P Z F (σ.set i (some v)) ρ' H := by
  unfold Nu.put1 at e
  split at e
  · cases e
  · rename_i h
    cases e
    exact S.store (b := false) r (by simpa using h)
theorem rels2 {vs : List V} {d e : D} (h : Rels K F vs [d, e]) : ∃ v w, vs = [v, w] ∧ Rel K F v d ∧ Rel K F w e := by
  cases h with
  | cons a b => cases b with | cons b c => cases c; exact ⟨_, _, rfl, a, b⟩
theorem rels3 {vs : List V} {d e f : D} (h : Rels K F vs [d, e, f]) : ∃ v w u, vs = [v, w, u] ∧ Rel K F v d ∧ Rel K F w e ∧ Rel K F u f := by
  cases h with
  | cons a b => obtain ⟨v, w, rfl, r1, r2⟩ := rels2 b; exact ⟨_, _, _, rfl, a, r1, r2⟩
theorem ds_par {i j : Nat} {x y : Str} {a b : Expr} {g : Rho → R (List Opd)} {px py pt pos : Pos} {kt k2 pt2} (hc : X.calm = true) (hN : X.N.Nodup) (hi : X.N[i]? = some x) (hj : X.N[j]? = some y) (hij : i ≠ j)
    (hx : X.env.scope.names.lookup x = some .local) (hy : X.env.scope.names.lookup y = some .local) (ha : PA X [a, b] (tA C g))
    (hw : swappedStores [.Tuple [.Name x px, .Name y py] kt pt] (.Tuple [a, b] k2 pt2) X.env = pure (some [x, y]))
    (hs : swapsWithSole [.Tuple [.Name x px, .Name y py] kt pt] (.Tuple [a, b] k2 pt2) pos.line X.env = pure false := by rfl) :
    PS X (.Assign [.Tuple [.Name x px, .Name y py] kt pt] (.Tuple [a, b] k2 pt2) pos) (tS C (sPar i j g)) :=
  PS.imp (ps_par hc hN hi hj hij hx hy ha hw hs) fun E σ H ⟨Z, F, ρ, S, m⟩ => tG.stepS S m fun os ρ1 F1 H1 vs l S1 ro m1 => by
    cases e : vals os with
    | none => simp only [e] at m1; exact m1.elim
    | some ds =>
      simp only [e] at m1
      have rr := vals_rels ro e
      match ds, rr, m1 with
      | [], _, m1 => exact m1.elim
      | [_], _, m1 => exact m1.elim
      | _ :: _ :: _ :: _, _, m1 => exact m1.elim
      | [d, e'], rr, m1 =>
        obtain ⟨v, w, rfl, r1, r2⟩ := rels2 rr
        refine ⟨v, w, rfl, ?_⟩
        have m2 : AtS C Z F1 E (match (put1 i d ρ1).bind (put1 j e') with
          | some ρ2 => .nx ρ2
          | none => .err) := m1
        cases q : (put1 i d ρ1).bind (put1 j e') with
        | none => rw [q] at m2; exact m2.elim
        | some ρ2 =>
          rw [q] at m2
          obtain ⟨ρ3, q1, q2⟩ := Option.bind_eq_some_iff.mp q
          exact m2 F1 H1 _ (Evl.Ex.refl F1) ((S1.put1 r1 q1).put1 r2 q2)
def sPar3 (i j l : Nat) (g : Rho → R (List Opd)) (ρ : Rho) : Ss := Rx (g ρ) fun os ρ1 => match vals os with
  | some [d, e, f] => (match ((put1 i d ρ1).bind (put1 j e)).bind (put1 l f) with
    | some ρ2 => .nx ρ2
    | none => .err)
  | _ => .err
/-! ## join -/
def joinL {α : Type} (s : List α) : List (List α) → List α
  | [] => []
  | [x] => x
  | x :: r => x ++ s ++ joinL s r
def strsOf : List D → Option (List (List Cp))
  | [] => some []
  | .str b :: r => (strsOf r).map (b :: ·)
  | _ :: _ => none
@[simp] theorem strsOf_map (bs : List (List Cp)) : strsOf (bs.map D.str) = some bs := by
  induction bs with
  | nil => rfl
  | cons b r ih => rw [List.map_cons, strsOf, ih]; rfl
theorem strsOf_eq : ∀ {ds : List D} {bs : List (List Cp)}, strsOf ds = some bs → ds = bs.map D.str
  | [], _, e => by cases e; rfl
  | d :: ds, bs, e => by
    cases d with
    | str b =>
      obtain ⟨q, e1, e2⟩ := Option.map_eq_some_iff.mp (show (strsOf ds).map (b :: ·) = some bs from e)
      cases e2
      rw [strsOf_eq e1]
      rfl
    | _ => cases e
theorem Rels.strs : ∀ {bs : List (List Cp)} {vs : List V}, Rels K F vs (bs.map D.str) → vs = (bs.map toStr).map V.str
  | [], _, .nil => rfl
  | b :: bs, _, .cons h r => by
    cases h
    rw [Rels.strs r]
    rfl
theorem join_toStr (s : List Cp) : ∀ bs : List (List Cp), Txt.join (toStr s) (bs.map toStr) = toStr (joinL s bs) := by
  intro bs
  show PySem.Builtin.Str.glued _ _ = _
  rw [PySem.StrLaws.glued_eq_join]
  induction bs with
  | nil => rfl
  | cons b r ih =>
    cases r with
    | nil => rfl
    | cons c r =>
      show toStr b ++ toStr s ++ Str.join (toStr s) ((c :: r).map toStr) = _
      rw [ih, toStr_append, toStr_append]
      rfl
def gJoin (a b : D) : Option (D × Bool) := match a, b with
  | .str s, .lst ds => (strsOf ds).bind fun bs => if (bs.map (·.length)).sum + bs.length * s.length ≤ 16777216 then some (.str (joinL s bs), false) else none
  | .str s, .tup ds => (strsOf ds).bind fun bs => if (bs.map (·.length)).sum + bs.length * s.length ≤ 16777216 then some (.str (joinL s bs), false) else none
  | _, _ => none
def isStr : D → Bool
  | .str _ => true
  | _ => false
def sJoin (f g : Rho → R Opd) (ρ : Rho) : R (D × Bool) := (f ρ).bind fun o ρ1 => match o with
  | .val (.str s) => (g ρ1).bind fun o2 ρ2 => R.of ((peek ρ2 o2).bind (gJoin (.str s))) ρ2
  | _ => .err
theorem de_join {o e : Expr} {f g : Rho → R Opd} {apos pos : Pos} (hk : X.K = C.K) (ho : PE X o (tO C f)) (he : PE X e (tO C g)) (hs : starEach [e] X.env = [(false, eval e X.env)] := by rfl) (hbase : attributeBase o "join" X.env (eval o X.env) = eval o X.env := by rfl) (hline : (apos.endLine == pos.line) = true := by rfl) :
    PE X (.Call (.Attribute o "join" apos) [e] [] pos) (tE C (sJoin f g)) :=
  PE.imp (pe_join ho he hs hbase hline) fun σ H Q ⟨Z, F, ρ, S, m⟩ => tG.step S m fun o ρ1 F1 H1 v l S1 r m1 => by
    match o, r, m1 with
    | .var _, _, m1 => exact m1.elim
    | .val (.str s), r, m1 =>
      cases (show Rel C.K F1 v (.str s) from r)
      refine ⟨⟨_, rfl⟩, tG.step S1 m1 fun o2 ρ2 F2 H2 w l2 S2 r2 m2 => ?_⟩
      cases p : peek ρ2 o2 with
      | none => rw [p] at m2; exact m2.elim
      | some d =>
        rw [p] at m2
        have rl := peek_rl S2 r2 p
        have fin : ∀ (ds : List D) (a : Addr) (vs : List V), At C (relE C.K) Z F2 σ Q (R.of ((strsOf ds).bind fun bs => if (bs.map (·.length)).sum + bs.length * s.length ≤ 16777216 then some (D.str (joinL s bs), false) else none) ρ2) → (SqL X.K H2 a vs ∨ SqT X.K H2 a vs) → Rels C.K F2 vs ds →
            ∃ a' p', ∃ ys : List Str, V.str (toStr s) = .str a' ∧ [V.ref a] = [V.ref p'] ∧ (SqL X.K H2 p' (ys.map V.str) ∨ SqT X.K H2 p' (ys.map V.str)) ∧ (ys.map (·.length)).sum + ys.length * a'.length ≤ 16777216 ∧ Q (.str (Txt.join a' ys)) H2 := fun ds a vs m3 hq rr => by
          cases e1 : strsOf ds with
          | none => rw [e1] at m3; exact m3.elim
          | some bs =>
            rw [e1] at m3
            have m4 : At C (relE C.K) Z F2 σ Q (R.of (if (bs.map (·.length)).sum + bs.length * s.length ≤ 16777216 then some (D.str (joinL s bs), false) else none) ρ2) := m3
            rw [strsOf_eq e1] at rr
            have e2 := rr.strs
            subst e2
            by_cases hz : (bs.map (·.length)).sum + bs.length * s.length ≤ 16777216
            · rw [if_pos hz] at m4
              refine ⟨toStr s, a, bs.map toStr, rfl, rfl, hq, ?_, ?_⟩
              · rw [List.map_map, List.length_map, toStr_length, show ((fun x : Str => x.length) ∘ toStr) = fun x : List Cp => x.length from funext fun x => toStr_length x]
                exact hz
              · rw [join_toStr]
                exact m4 F2 H2 _ (Evl.Ex.refl F2) S2 (Rel.str _)
            · rw [if_neg hz] at m4; exact m4.elim
        cases d with
        | lst ds =>
          obtain ⟨a, vs, rfl, ha, rr⟩ := rl.lst S2.fh
          exact fin ds a vs m2 (.inl (.of ha)) rr
        | tup ds =>
          obtain ⟨a, vs, rfl, ha, _, rr⟩ := rl.tup S2.fh
          rw [← hk] at ha
          exact fin ds a vs m2 (.inr ha) rr
        | _ => exact m2.elim
    | .val .non, _, m1 => exact m1.elim
    | .val (.bl _), _, m1 => exact m1.elim
    | .val (.int _), _, m1 => exact m1.elim
    | .val (.ty _), _, m1 => exact m1.elim
    | .val (.tup _), _, m1 => exact m1.elim
    | .val (.lst _), _, m1 => exact m1.elim
    | .val (.scr _), _, m1 => exact m1.elim
    | .val (.obj _ _), _, m1 => exact m1.elim
/-! ## len(set(text)) -/
def tLenSetS (ta : TE) : TE := fun σ H Q => ta σ H fun x H1 => ∃ z : Str, x = .str z ∧ z.length < 4000 ∧ Q (.int (nub (chs z z.cps.size)).length) H1
theorem pe_lenSetS {a : Expr} {ta : TE} {p p2 q pos : Pos} (hc : X.calm = true) (hg : Gl X "len") (hm : X.mg "len" = none) (hg2 : Gl X "set") (hm2 : X.mg "set" = none) (ha : PE X a ta)
    (na : starEach [a] X.env = (false, eval a X.env) :: starEach [] X.env := by rfl) : PE X (.Call (.Name "len" p) [.Call (.Name "set" p2) [a] [] q] [] pos) (tLenSetS ta) := by
  refine ⟨fun pins s σ H Q I h => ?_⟩
  refine Call_ (ld_blt I hg hm boot_len ?_)
  refine PyProof.Rows.callWith_builtin1 (PyProof.Rows.args_cons ?_ rfl) rfl rfl
  refine Call_ (ld_blt I hg2 hm2 boot_set ?_)
  refine PyProof.Rows.callWith_type1 (PyProof.Rows.args_cons (thn (ha.run pins s σ H _ I h) fun v s1 ⟨x, H1, I1, r1, q1⟩ => PyProof.Rows.args_nil ?_) na) na rfl
  obtain ⟨z, rfl, hl, q1⟩ := q1
  obtain ⟨t, rfl⟩ := r1
  refine call_set_str (I1.ok.hd hc) (show z.length + 1 < scanBound by unfold scanBound; omega) fun h' tk hS hk => ?_
  refine PyProof.Rows.args_nil ?_
  obtain ⟨o, es, ep, t, ho, hex, hd, _, _, _, hf, hn⟩ := hS
  have I2 : Inv X pins σ H1 { s1 with heap := h', toks := tk } := I1.kept fun b o e => hk b o (Heap.lt_size e) e
  have hle : (nub (chs z z.cps.size)).length < 4000 := by
    refine Nat.lt_of_le_of_lt (nub_le _) ?_
    unfold chs
    rw [List.length_map, List.length_range]
    exact hl
  exact call_len_set ho hex hd hf (by rw [hn] <;> omega) ⟨.int _, H1, I2.tok _, ⟨_, by rw [hn]⟩, q1⟩
theorem chs_toStr (z : List Cp) : chs (toStr z) (toStr z).cps.size = z.map fun c => toStr [c] := by
  unfold chs
  apply List.ext_getElem?
  intro i
  rw [List.getElem?_map, List.getElem?_map]
  have e : (toStr z).cps.size = z.length := toStr_length z
  rw [e]
  by_cases h : i < z.length
  · rw [List.getElem?_range h, List.getElem?_eq_getElem h]
    show some (chS (toStr z) i) = some (toStr [z[i]])
    congr 1
    unfold chS toStr
    simp [Array.getD, h]
  · rw [List.getElem?_eq_none (by simpa using h), List.getElem?_eq_none (by simpa using h)]
    rfl
def sLenSet (f : Rho → R Opd) (ρ : Rho) : R (D × Bool) := (f ρ).bind fun o ρ1 => match o with
  | .val (.str z) => if z.length < 4000 then .ok (.int (nub z).length, false) ρ1 else .err
  | _ => .err
theorem de_lenSet {a : Expr} {f : Rho → R Opd} {p p2 q pos : Pos} (hc : X.calm = true) (hg : Gl X "len") (hm : X.mg "len" = none) (hg2 : Gl X "set") (hm2 : X.mg "set" = none) (ha : PE X a (tO C f))
    (na : starEach [a] X.env = (false, eval a X.env) :: starEach [] X.env := by rfl) : PE X (.Call (.Name "len" p) [.Call (.Name "set" p2) [a] [] q] [] pos) (tE C (sLenSet f)) :=
  PE.imp (pe_lenSetS hc hg hm hg2 hm2 ha na) fun σ H Q ⟨Z, F, ρ, S, m⟩ => tG.step S m fun o ρ1 F1 H1 v l S1 r m1 => by
    match o, r, m1 with
    | .var _, _, m1 => exact m1.elim
    | .val (.str z), r, m1 =>
      cases (show Rel C.K F1 v (.str z) from r)
      have m2 : At C (relE C.K) Z F1 σ Q (if z.length < 4000 then .ok (D.int (nub z).length, false) ρ1 else .err) := m1
      by_cases hz : z.length < 4000
      · rw [if_pos hz] at m2
        refine ⟨toStr z, rfl, by rw [toStr_length]; exact hz, ?_⟩
        rw [chs_toStr, nub_map (fun a b e => by simpa using toStr_inj e), List.length_map]
        exact m2 F1 H1 _ (Evl.Ex.refl F1) S1 (Rel.int _)
      · rw [if_neg hz] at m2; exact m2.elim
    | .val .non, _, m1 => exact m1.elim
    | .val (.bl _), _, m1 => exact m1.elim
    | .val (.int _), _, m1 => exact m1.elim
    | .val (.ty _), _, m1 => exact m1.elim
    | .val (.tup _), _, m1 => exact m1.elim
    | .val (.lst _), _, m1 => exact m1.elim
    | .val (.scr _), _, m1 => exact m1.elim
    | .val (.obj _ _), _, m1 => exact m1.elim
end Nu
namespace Nu
open PySem PySem.Spec PyProof.Rows L2
variable {C : Cq} {Z Z' F F' H H' : Hp} {σ σ' : St} {ρ ρ' : Rho} {X : Cx} {K : PySem.W.Frag}

/-! ## constants -/
def lit (s : String) : List Cp := s.toList.map fun c => ⟨c.toNat, by
  have := c.valid
  unfold UInt32.isValidChar Nat.isValidChar at this
  show c.val.toNat < 1114112
  omega⟩
theorem toStr_lit (s : String) : toStr (lit s) = Str.ofString s := by
  rw [Str.ofString_eq_toList]
  unfold toStr lit
  rw [List.map_map]
  rfl
theorem de_str {s : String} {j : Nat} {pos : Pos} : PE X (.Constant (.str (Str.ofString s)) j pos) (tE C (sC (.str (lit s)))) := de_c pe_str fun F => by rw [← toStr_lit]; exact .str _
theorem de_int {i : Int} {j : Nat} {pos : Pos} : PE X (.Constant (.int i) j pos) (tE C (sC (.int i))) := de_c pe_int fun F => .int i
theorem de_bl {b : Bool} {j : Nat} {pos : Pos} : PE X (.Constant (.bool b) j pos) (tE C (sC (.bl b))) := de_c pe_bl fun F => .bl b
theorem de_non {j : Nat} {pos : Pos} : PE X (.Constant .none j pos) (tE C (sC .non)) := de_c pe_non fun F => .non
theorem de_gint {x : Str} {i : Int} {pos : Pos} (hg : Gl X x) (hm : ∃ t, X.mg x = some (.int i t)) (hd : (x == ("__debug__" : Str)) = false := by decide) : PE X (.Name x pos) (tE C (sC (.int i))) := by
  obtain ⟨t, ht⟩ := hm
  exact de_c (v := .int i) (pe_glob hg ht ⟨t, rfl⟩ hd) fun F => .int i
theorem de_gstr {x : Str} {s : String} {pos : Pos} (hg : Gl X x) (hm : ∃ t, X.mg x = some (.str (Str.ofString s) t)) (hd : (x == ("__debug__" : Str)) = false := by decide) : PE X (.Name x pos) (tE C (sC (.str (lit s)))) := by
  obtain ⟨t, ht⟩ := hm
  exact de_c (v := .str (Str.ofString s)) (pe_glob hg ht ⟨t, rfl⟩ hd) fun F => by rw [← toStr_lit]; exact .str _
theorem de_ty {x : Str} {n : String} {pos : Pos} (hg : Gl X x) (hm : X.mg x = none) (hv : bootBuiltins x = some (.type n)) (hn : x ≠ "__name__" := by decide) (hd : (x == ("__debug__" : Str)) = false := by decide) : PE X (.Name x pos) (tE C (sC (.ty n))) :=
  de_c (v := .ty n) (pe_bltn hg hm hv rfl hn hd) fun F => .ty n
/-! ## contexts -/
theorem takes_cx {P : Program} {w : World} {K : PySem.W.Frag} {mg : Str → Option Value} {base : Heap} {N : List Str} {qual : Str} {scope : Scope} {f : Addr} {cd : Value} {A : Around} {outer : List Env} {s : Shared} {H : Hp} {E : XK} :
    L2N.Takes (cxOf (L2N.CX P w) P w K mg base N qual scope f cd A outer s H E) (fun cls d _ H => E cls d H) := L2N.takes_of rfl rfl rfl rfl
theorem own_cx {CX : CXT} {P : Program} {w : World} {K : PySem.W.Frag} {mg : Str → Option Value} {base : Heap} {N : List Str} {qual : Str} {scope : Scope} {f : Addr} {cd : Value} {A : Around} {outer : List Env} {s : Shared} {H : Hp} {E : XK} :
    PassesOwn (model P w) (cxOf CX P w K mg base N qual scope f cd A outer s H E).A (cxOf CX P w K mg base N qual scope f cd A outer s H E).env (cxOf CX P w K mg base N qual scope f cd A outer s H E).xe := by
  exact PassesOwn.leaving
theorem takes_in {X : Cx} : L2N.Takes X (fun _ _ _ _ => False) := fun u s' ⟨a, B, sI, pins, σ, H, cls, d, e, I, nb, up, sky, na, os, ag, w⟩ => w.elim
/-! ## binding -/
inductive Tl where | kw (j : Nat) | df (j : Nat) | ko (j : Nat)
def Tl.v (dvs mz : List V) : Tl → Nat ⊕ V
  | .kw j => .inl j
  | .df j => .inr (dvs.getD j .non)
  | .ko j => .inr (mz.getD j .non)
def Tl.u (ws its mv : List Value) : Tl → Value
  | .kw j => ws.getD j .none
  | .df j => its.getD j .none
  | .ko j => mv.getD j .none
theorem vals_getD {xs : List V} {us : List Value} (h : Vals xs us) (j : Nat) : RelV (xs.getD j .non) (us.getD j .none) := by
  rw [List.getD_eq_getElem?_getD, List.getD_eq_getElem?_getD]
  cases e : xs[j]? with
  | none =>
    have : us[j]? = none := by rw [List.getElem?_eq_none_iff] at e ⊢; rw [← h.length]; exact e
    rw [this]
    rfl
  | some v =>
    obtain ⟨u, hu, r⟩ := h.get e
    rw [hu]
    exact r
theorem tail_vals {zs dvs mz : List V} {ws its mv : List Value} (r1 : Vals zs ws) (r2 : Vals dvs its) (r3 : Vals mz mv) : ∀ ts : List Tl, Vals (tailV zs (ts.map (Tl.v dvs mz))) (ts.map (Tl.u ws its mv))
  | [] => .nil
  | .kw j :: r => .cons (vals_getD r1 j) (tail_vals r1 r2 r3 r)
  | .df j :: r => .cons (vals_getD r2 j) (tail_vals r1 r2 r3 r)
  | .ko j :: r => .cons (vals_getD r3 j) (tail_vals r1 r2 r3 r)
section
variable {x qual : Str} {params : Arguments} {body : List Stmt} {scope : Scope} {dvs : List V} {kws : List (Str × V)} {f : Addr} {fd : FuncData} {ps ks : List Str} {n : Nat}
/-- no defaults -/
theorem bdN (F : FunD K x qual params body scope [] kws f fd) (ts : List Tl)
    (h : ∀ (kV doc pm : Value) (an : Option Addr) (cdv ct : Value) (us ws : List Value), us.length = n → ws.length = ks.length → bindArgs (PySem.W.fnOf x qual params body scope .none kV doc pm an cdv ct) ⟨us, ks.zip ws⟩ = pure (ps.zip (us ++ ts.map (Tl.u ws [] [])))) : Bd K fd ps n ks (ts.map (Tl.v [] [])) := by
  obtain ⟨oc, od, dV, kV, doc, pm, an, cdv, ct, osl, rfl, lk, hcd, hD, hK⟩ := F.ex
  rcases hD with ⟨_, rfl⟩ | ⟨e, _⟩
  · exact ⟨fun s us ws zs X l1 l2 rz => ⟨_, tail_vals rz .nil .nil ts, .of_eq (h kV doc pm an cdv ct us ws l1 l2)⟩⟩
  · exact absurd rfl e
/-- defaults, none of the keyword-only ones lacks -/
theorem bdD (F : FunD K x qual params body scope dvs kws f fd) (ts : List Tl) (hd : dvs ≠ [])
    (h : ∀ (T : Addr) (kV doc pm : Value) (an : Option Addr) (cdv ct : Value) (us ws its : List Value), us.length = n → ws.length = ks.length → its.length = dvs.length →
      ∃ k, bindArgs (PySem.W.fnOf x qual params body scope (.ref T) kV doc pm an cdv ct) ⟨us, ks.zip ws⟩ = seqItems? (.ref T) >>= k ∧ k (some its.toArray) = pure (ps.zip (us ++ ts.map (Tl.u ws its [])))) : Bd K fd ps n ks (ts.map (Tl.v dvs [])) := by
  obtain ⟨oc, od, dV, kV, doc, pm, an, cdv, ct, osl, rfl, lk, hcd, hD, hK⟩ := F.ex
  rcases hD with ⟨e, _⟩ | ⟨_, T, o, its, m, rfl, lT, oT, rT⟩
  · exact absurd e hd
  · refine ⟨fun s us ws zs X l1 l2 rz => ⟨_, tail_vals rz rT .nil ts, ?_⟩⟩
    obtain ⟨k, e1, e2⟩ := h T kV doc pm an cdv ct us ws its l1 l2 rT.length.symm
    refine BindsTo.of_looks fun M => ?_
    rw [e1]
    exact looks_items X lT oT (.of_pure e2)
/-- defaults, and keyword-only ones that lack -/
theorem bdK (F : FunD K x qual params body scope dvs kws f fd) (mz : List (Str × V)) (ts : List Tl) (hd : dvs ≠ []) (hk : kws ≠ []) (hms : ∀ q ∈ mz, q ∈ kws)
    (h : ∀ (T D : Addr) (doc pm : Value) (an : Option Addr) (cdv ct : Value) (us ws its mv : List Value), us.length = n → ws.length = ks.length → its.length = dvs.length → mv.length = mz.length →
      ∃ k, bindArgs (PySem.W.fnOf x qual params body scope (.ref T) (.ref D) doc pm an cdv ct) ⟨us, ks.zip ws⟩ = seqItems? (.ref T) >>= k ∧ KwChain D ((mz.map (·.1)).zip mv) (k (some its.toArray)) (ps.zip (us ++ ts.map (Tl.u ws its mv)))) : Bd K fd ps n ks (ts.map (Tl.v dvs (mz.map (·.2)))) := by
  obtain ⟨oc, od, dV, kV, doc, pm, an, cdv, ct, osl, rfl, lk, hcd, hD, hK⟩ := F.ex
  rcases hD with ⟨e, _⟩ | ⟨_, T, o, its, m, rfl, lT, oT, rT⟩
  · exact absurd e hd
  · rcases hK with e | ⟨D, rfl, hq⟩
    · exact absurd e hk
    · obtain ⟨mv, hl, rk, hks⟩ := kwd_vals (ms := mz) fun q hm => hq q (hms q hm)
      refine ⟨fun s us ws zs X l1 l2 rz => ⟨_, tail_vals rz rT rk ts, ?_⟩⟩
      obtain ⟨k, e1, e2⟩ := h T D doc pm an cdv ct us ws its mv l1 l2 rT.length.symm hl
      refine BindsTo.of_looks fun M => ?_
      rw [e1]
      exact looks_items X lT oT (KwChain.looks X hks e2)
/-- keyword-only ones that lack, no defaults -/
theorem bdO (F : FunD K x qual params body scope [] kws f fd) (mz : List (Str × V)) (ts : List Tl) (hk : kws ≠ []) (hms : ∀ q ∈ mz, q ∈ kws)
    (h : ∀ (D : Addr) (doc pm : Value) (an : Option Addr) (cdv ct : Value) (us ws mv : List Value), us.length = n → ws.length = ks.length → mv.length = mz.length →
      KwChain D ((mz.map (·.1)).zip mv) (bindArgs (PySem.W.fnOf x qual params body scope .none (.ref D) doc pm an cdv ct) ⟨us, ks.zip ws⟩) (ps.zip (us ++ ts.map (Tl.u ws [] mv)))) : Bd K fd ps n ks (ts.map (Tl.v [] (mz.map (·.2)))) := by
  obtain ⟨oc, od, dV, kV, doc, pm, an, cdv, ct, osl, rfl, lk, hcd, hD, hK⟩ := F.ex
  rcases hD with ⟨_, rfl⟩ | ⟨e, _⟩
  · rcases hK with e | ⟨D, rfl, hq⟩
    · exact absurd e hk
    · obtain ⟨mv, hl, rk, hks⟩ := kwd_vals (ms := mz) fun q hm => hq q (hms q hm)
      exact ⟨fun s us ws zs X l1 l2 rz => ⟨_, tail_vals rz .nil rk ts, BindsTo.of_looks fun M => KwChain.looks X hks (h D doc pm an cdv ct us ws mv l1 l2 hl)⟩⟩
  · exact absurd rfl e
end
/-! ## the head's facts -/
/-- facts of the text, read from the heap behind the top -/
theorem Hk.Says.fact {h : Hk} (c : h.Says K) (i : Nat) {f : PySem.W.Frag → Bool} (e : h.fs[i]? = some f := by rfl) : f K = true := by
  have c1 := (He.ba (show ((h.fs.all fun f => f K) && h.fn.all fun d => d.ok K) = true from congrArg (fun z : He.AlD => z.1) c)).1
  exact List.all_eq_true.mp c1 f (List.mem_of_getElem? e)
theorem Hk.Says.def_ {h : Hk} (c : h.Says K) (i : Nat) {d : He.DefD} (e : h.fn[i]? = some d := by rfl) : ∃ fd, FunD K d.name d.qual d.params d.body d.scope (d.dvs K) (d.kws K) (He.fAd K d.at_) fd := by
  have c2 := (He.ba (show ((h.fs.all fun f => f K) && h.fn.all fun d => d.ok K) = true from congrArg (fun z : He.AlD => z.1) c)).2
  have e1 : h.fn.map (fun d => He.fnW K d.at_) = h.fn.map He.DefD.val := congrArg (fun z : He.AlD => z.2) c
  have e2 : (h.fn.map fun d => He.fnW K d.at_)[i]? = (h.fn.map He.DefD.val)[i]? := by rw [e1]
  rw [List.getElem?_map, List.getElem?_map, e] at e2
  exact He.DefD.funD (Option.some.inj e2) (List.all_eq_true.mp c2 d (List.mem_of_getElem? e))
theorem fCall_ok {x : Str} (h : fCall x K = true) : StX.CallO K (He.ga K x) (He.ma K (He.ga K x) "__call__") := by
  obtain ⟨c1, c⟩ := He.ba h
  obtain ⟨c2, c3⟩ := He.ba c
  exact ⟨He.eqO_ok c1, c2, c3⟩
end Nu
namespace Nu
open PySem PySem.Spec PyProof.Rows L2
variable {X : Cx} {K : PySem.W.Frag}
theorem hu65 {A : Around} {k : Nat} (hr : Room k A) : A.units + 65 < cLine := Nat.lt_of_le_of_lt (by omega) hr.un
theorem hu64 {A : Around} {k : Nat} (hr : Room k A) : A.units + 64 < cLine := Nat.lt_of_le_of_lt (by omega) hr.un
theorem rels_ints {F : Hp} : ∀ ns : List Int, Rels K F (ns.map V.int) (ns.map D.int)
  | [] => .nil
  | n :: ns => .cons (.int n) (rels_ints ns)
/-- the law's def, from what it computes -/
theorem law_sp {m : Mir} {H : Hp} {a : Addr} {ns : List Int} (hS : SqL K H a (ns.map V.int)) (hm : m [.scr (ns.map D.int)] = .ok (.bl true) false []) : spM K [false] m [.ref a] H (fun v _ => v = .bl true) (fun _ _ _ => False) := by
  refine ⟨fun _ => none, H, [.scr (ns.map D.int)], ⟨Evl.Ex.refl H, (fun a o e => by cases e), (fun a o e => by cases e)⟩, .sh (.scr hS (rels_ints ns)) .nil, ?_⟩
  rw [hm]
  intro v F' H' l hp ho hr
  cases (show Rel K F' v (.bl true) from hr)
  rfl
theorem fldOk {cs : List Str} {f : Str} (h : (cs.all fun c => (He.Fa.cls c).ok K && (He.Fa.noat c f).ok K) = true) : FldOk K cs f := fun c hc => by
  obtain ⟨h1, h2⟩ := He.ba (List.all_eq_true.mp h c hc)
  exact ⟨He.cls_ok h1, He.noat_ok h2⟩
theorem FnV.mono {P : Program} {w : World} {mg : Str → Option Value} {base : Heap} {k k' : Nat} {f : Addr} {n : Nat} {ks : List Str} {tl : List (Nat ⊕ D)} {ms : List Bool} {m : Mir} (G : Nu.FnV P w K mg base k f n ks tl ms m) (h : k ≤ k') : Nu.FnV P w K mg base k' f n ks tl ms m := by
  obtain ⟨fd, ps, tv, g, b, t⟩ := G.ex
  exact ⟨fd, ps, tv, g.mono h, b, t⟩
/-- the law's def is called with the script: what is tracked is the script alone -/
theorem law_at {Pg : Program} {w : World} {mg mb : Str → Option Value} {k : Nat} {fa a : Addr} {fd : FuncData} {x : Str} {m : Mir} {s1 : Shared} {us : List Value} {ns : List Int} (inK : K.In s1.heap) (gl : s1.heap.Ns mainGlobals mg) (bl : s1.heap.Ns builtinsNs mb) (bb : ∀ y : Str, y ≠ "__name__" → mb y = bootBuiltins y) (nl : s1.heap.NoLimit) (gn : s1.gens = #[])
    (ob : s1.heap.get? a = some { cls := .type "list", data := .seq us.toArray }) (isI : IntsAre us ns) (sz : ns.length ≤ sizeLine) (room : Nu.Room k callerA) (G : ∀ base : Heap, K.In base → base.Ns mainGlobals mg → Nu.FnOk Pg w K mg base (L2N.CX Pg w) k fa fd [x] (spM K [false] m))
    (bd : ∀ (s : Shared) (u : Value), BindsTo s fd ⟨[u], []⟩ [(x, u)]) (hm : m [.scr (ns.map D.int)] = .ok (.bl true) false []) :
    codeAny (model Pg w) callerA (.call (.ref fa) ⟨[.ref a], []⟩) (fun r s' => r = .ok (.ret (.bool true)) ∧ OldK s1.heap s'.heap ∧ s'.os = s1.os ∧ AllBare s'.gens) s1 := by
  have from_H : ∀ H : Hp, (∀ b u, H b = some u → b = a ∧ K.lookup a = none ∧ u = .frz { cls := .type "list", data := .seq us.toArray } (.lst (ns.map V.int))) → SqL K H a (ns.map V.int) → HOk Pg w H s1.heap →
      codeAny (model Pg w) callerA (.call (.ref fa) ⟨[.ref a], []⟩) (fun r s' => r = .ok (.ret (.bool true)) ∧ OldK s1.heap s'.heap ∧ s'.os = s1.os ∧ AllBare s'.gens) s1 := by
    intro H one sq hok
    have dictFree : ∀ {b : Addr} {o : Obj} {es : Array DictEntry} {p : Nat}, s1.heap.get? b = some o → o.data = .dict es p → H b = none := by
      intro b o es p e d
      cases z : H b with
      | none => rfl
      | some u =>
        obtain ⟨rfl, _, _⟩ := one b u z
        rw [ob] at e
        cases e
        exact nomatch d
    have names : ∀ {b : Addr} {g : Str → Option Value}, s1.heap.Ns b g → (hidT s1.heap H).Ns b g := by
      rintro b g ⟨o, es, p, e, d, r⟩
      exact ⟨o, es, p, hidT_get e (dictFree e d), d, r⟩
    have inB : K.In (hidT s1.heap H) := by
      intro b o e
      refine hidT_get (inK b o e) ?_
      cases z : H b with
      | none => rfl
      | some u =>
        obtain ⟨rfl, no, _⟩ := one b u z
        rw [no] at e
        cases e
    obtain ⟨mc, c1, c2⟩ := nl
    have en : Env0 Pg w K mg (hidT s1.heap H) callerA [] s1 H := ⟨rfl, ⟨inB, names gl, ⟨mb, names bl, bb⟩, ⟨mc, names c1, c2⟩⟩, fun b o e => of_hidT e, Nat.le_of_eq (hidT_size _ _), trivial, (fun b hb => nomatch (show b ∈ ([] : List Addr) from hb)), hok, .of_eq gn⟩
    refine codeAny_mono ((G _ inB (names gl)).run callerA [] s1 H ⟨[.ref a], []⟩ [.ref a] [.ref a] _ _ room en (bd s1 (.ref a)) (.cons rfl .nil) (law_sp sq hm)) fun r s' h => ?_
    cases r with
    | error e => obtain ⟨_, _, _, _, _, _, _, _, _, _, _, _, z⟩ := h; exact z.elim
    | ok fl =>
      cases fl with
      | next => exact h.elim
      | brk => exact h.elim
      | cont => exact h.elim
      | ret u =>
        obtain ⟨v, H', os, bare, un, hok', rv, q⟩ := h
        have q' : v = .bl true := q
        subst q'
        have eu : u = Value.bool true := rv
        subst eu
        refine ⟨rfl, OldK.of_keep fun b o e => ?_, os, bare⟩
        cases z : H b with
        | none => exact un.keep b o e z (fun y => nomatch (show b ∈ ([] : List Addr) from y)) (by simp)
        | some u =>
          obtain ⟨_, _, rfl⟩ := one b u z
          obtain ⟨g1, _⟩ := hok b _ z
          obtain ⟨g2, _⟩ := hok' b _ (un.frzs b _ _ z)
          rw [e] at g1
          cases g1
          exact g2
  have vals : Vals (ns.map V.int) us := vals_ints isI
  have cnt : us.toArray.size ≤ sizeLine := by rw [List.size_toArray, isI.length]; exact sz
  cases hk : K.lookup a with
  | some o =>
    have e := inK a o hk
    rw [ob] at e
    cases e
    exact from_H (fun _ => none) (fun _ _ z => nomatch z) (.inr ⟨_, us.toArray, _, hk, rfl, rfl, rfl, cnt, by simpa using vals⟩) (fun _ _ z => nomatch z)
  | none =>
    refine from_H (fun b => if b = a then some (.frz { cls := .type "list", data := .seq us.toArray } (.lst (ns.map V.int))) else none) (fun b u z => ?_) (.inl (.inr ⟨{ cls := .type "list", data := .seq us.toArray }, if_pos rfl⟩)) (fun b u z => ?_)
    · have z' : (if b = a then some (HO.frz { cls := .type "list", data := .seq us.toArray } (.lst (ns.map V.int))) else none) = some u := z
      split at z'
      · rename_i eb; cases z'; exact ⟨eb, hk, rfl⟩
      · cases z'
    · have z' : (if b = a then some (HO.frz { cls := .type "list", data := .seq us.toArray } (.lst (ns.map V.int))) else none) = some u := z
      split at z'
      · rename_i eb
        cases z'
        subst eb
        exact ⟨ob, by rw [List.length_map]; exact sz, us, _, vals, ob⟩
      · cases z'
/-- a law's end: its def is worth m, and m says true at every script -/
theorem walk_n {l : PySem.W.OpenLaw} {n k : Nat} {q : Program} {loose : List Str} {XP : (Str → Option Value) → Heap → Prop} {YP : World → Heap → Prop} {d : DefRec} {x : Str} {m : Mir}
    (hn : l.most = some n) (hn2 : n ≤ sizeLine) (hdf : d.params.defaults = []) (hr : Room k callerA) (hm : ∀ ns : List Int, ns.length ≤ n → m [.scr (ns.map D.int)] = .ok (.bl true) false [])
    (F : ∀ (w : World) (mg : Str → Option Value) (fa : Addr) (h : Heap), YP w h → h.Ns mainGlobals mg → mg d.name = some (.ref fa) → ∃ (K : PySem.W.Frag) (fd : FuncData), K.In h ∧
      (∀ (s : Shared) (u : Value), BindsTo s fd ⟨[u], []⟩ [(x, u)]) ∧ ∀ base : Heap, K.In base → base.Ns mainGlobals mg → FnOk l.prog w K mg base (L2N.CX l.prog w) k fa fd [x] (spM K [false] m)) :
    PySem.W.WalkO q loose XP YP l.row.toRowW d [] (fun f vs => PySem.call f vs) := by
  apply Att.attach_call hn hdf
  intro w s0 s1 mg mb fa o pm cd doc a vs ns G Y ho hd hcd hmg hobj hints hlen hg
  obtain ⟨K, fd, KX, hb, hF⟩ := F w mg fa _ Y G.T.g hmg
  exact law_at KX G.T.g G.T.b G.T.builtins G.T.nolimit hg hobj hints (Nat.le_trans hlen hn2) hr hF hb (hm ns hlen)
end Nu
namespace Nu
variable {α β : Type}
section
variable {ρ : Rho}
theorem a_seq {f g : Rho → Ss} : sSeq f g ρ = (f ρ).seq g := rfl
theorem a_nx : sNx ρ = .nx ρ := rfl
theorem a_bk : sBk ρ = .bk ρ := rfl
theorem a_ct : sCt ρ = .ct ρ := rfl
theorem a_never : sNever ρ = .err := rfl
theorem a_drop {f : Rho → R (D × Bool)} : sDrop f ρ = Rx (f ρ) fun _ ρ1 => .nx ρ1 := rfl
theorem a_ret {f : Rho → R (D × Bool)} : sRet f ρ = Rx (f ρ) fun a ρ1 => .rt a.1 a.2 ρ1 := rfl
theorem a_retN : sRetN ρ = .rt .non false ρ := rfl
theorem a_set {i : Nat} {f : Rho → R (D × Bool)} : sSet i f ρ = Rx (f ρ) fun a ρ1 => if isPin ρ1[i]? = true then .err else .nx (ρ1.set i (some (a.1, kd a.2))) := rfl
theorem a_ifS {c : Rho → R Bool} {f g : Rho → Ss} : sIfS c f g ρ = Rx (c ρ) fun b ρ1 => if b = true then f ρ1 else g ρ1 := rfl
theorem a_for {t : Tg} {it : Rho → R (List D)} {body : Rho → Ss} : sFor t it body ρ = Rx (it ρ) fun ds ρ1 => forLoop t body ds ρ1 := rfl
theorem a_opd {f : Rho → R (D × Bool)} : sOpd f ρ = (f ρ).bind fun a ρ1 => .ok (.val a.1) ρ1 := rfl
theorem a_c {d : D} : sC d ρ = .ok (d, false) ρ := rfl
theorem a_op2 {g : D → D → Option (D × Bool)} {f1 f2 : Rho → R Opd} : sOp2 g f1 f2 ρ = (f1 ρ).bind fun o1 ρ1 => (f2 ρ1).bind fun o2 ρ2 => R.of ((peek ρ2 o1).bind fun d1 => (peek ρ2 o2).bind fun d2 => g d1 d2) ρ2 := rfl
theorem a_test {f : Rho → R (D × Bool)} : sTest f ρ = (f ρ).bind fun a ρ1 => match a.1 with
  | .bl b => .ok b ρ1
  | _ => .err := rfl
theorem a_not {f : Rho → R Bool} : sNot f ρ = (f ρ).bind fun b ρ1 => .ok (!b) ρ1 := rfl
theorem a_and {f g : Rho → R Bool} : sAnd f g ρ = (f ρ).bind fun b ρ1 => if b = true then g ρ1 else .ok false ρ1 := rfl
theorem a_or {f g : Rho → R Bool} : sOr f g ρ = (f ρ).bind fun b ρ1 => if b = true then .ok true ρ1 else g ρ1 := rfl
theorem a_andV {f g : Rho → R (D × Bool)} : sAndV f g ρ = (f ρ).bind fun a ρ1 => match a.1 with
  | .bl true => g ρ1
  | .bl false => .ok (.bl false, false) ρ1
  | _ => .err := rfl
theorem a_orV {f g : Rho → R (D × Bool)} : sOrV f g ρ = (f ρ).bind fun a ρ1 => match a.1 with
  | .bl true => .ok (.bl true, false) ρ1
  | .bl false => g ρ1
  | _ => .err := rfl
theorem a_notV {f : Rho → R (D × Bool)} : sNotV f ρ = (f ρ).bind fun a ρ1 => match a.1 with
  | .bl b => .ok (.bl !b, false) ρ1
  | _ => .err := rfl
theorem a_neg {f : Rho → R (D × Bool)} : sNeg f ρ = (f ρ).bind fun a ρ1 => match a.1 with
  | .int i => .ok (.int (-i), false) ρ1
  | _ => .err := rfl
theorem a_if {c : Rho → R Bool} {f g : Rho → R α} : sIf c f g ρ = (c ρ).bind fun b ρ1 => if b = true then f ρ1 else g ρ1 := rfl
theorem a_chain {g1 g2 : D → D → Option (D × Bool)} {f1 f2 f3 : Rho → R Opd} : sChain g1 g2 f1 f2 f3 ρ =
  (f1 ρ).bind fun o1 ρ1 => (f2 ρ1).bind fun o2 ρ2 => (R.of ((peek ρ2 o1).bind fun d1 => (peek ρ2 o2).bind fun d2 => g1 d1 d2) ρ2).bind fun a ρ3 => match a with
    | (.bl true, false) => (f3 ρ3).bind fun o3 ρ4 => R.of ((peek ρ4 o2).bind fun d2 => (peek ρ4 o3).bind fun d3 => g2 d2 d3) ρ4
    | (.bl false, false) => .ok (.bl false, false) ρ3
    | _ => .err := rfl
theorem a_noP : sNoP ρ = .ok none ρ := rfl
theorem a_P {f : Rho → R (D × Bool)} : sP f ρ = (f ρ).bind fun a ρ1 => match a.1 with
  | .int i => .ok (some i) ρ1
  | _ => .err := rfl
theorem a_sl {g : D → Option Int → Option Int → Option (D × Bool)} {f : Rho → R Opd} {fl fh : Rho → R (Option Int)} : sSl g f fl fh ρ =
  (f ρ).bind fun o ρ1 => (fl ρ1).bind fun lo ρ2 => (fh ρ2).bind fun hi ρ3 => R.of ((peek ρ3 o).bind fun d => g d lo hi) ρ3 := rfl
theorem a_nil : sNil ρ = .ok [] ρ := rfl
theorem a_cons {f : Rho → R Opd} {g : Rho → R (List Opd)} : sCons f g ρ = (f ρ).bind fun o ρ1 => (g ρ1).bind fun os ρ2 => .ok (o :: os) ρ2 := rfl
theorem a_tup {g : Rho → R (List Opd)} : sTup g ρ = (g ρ).bind fun os ρ1 => R.of ((vals os).bind fun ds => if ds.length ≤ PySem.sizeLine then some (.tup ds, false) else none) ρ1 := rfl
theorem a_lst {g : Rho → R (List Opd)} : sLst g ρ = (g ρ).bind fun os ρ1 => R.of ((vals os).bind fun ds => if ds.length ≤ PySem.sizeLine then some (.lst ds, true) else none) ρ1 := rfl
theorem a_fn {g : List D → Option (D × Bool)} {fa : Rho → R (List Opd)} : sFn g fa ρ = (fa ρ).bind fun os ρ1 => R.of ((peeks ρ1 os).bind g) ρ1 := rfl
theorem a_fld {cs : List PySem.Str} {f : PySem.Str} {fo : Rho → R Opd} : sFld cs f fo ρ = (fo ρ).bind fun o ρ1 => R.of ((peek ρ1 o).bind (getF cs f)) ρ1 := rfl
theorem a_yes : sYes ρ = .ok true ρ := rfl
theorem a_vNil : vNil ρ = .ok [] ρ := rfl
theorem a_vS {f : Rho → R (D × Bool)} {g : Rho → R (List Av)} : vS f g ρ = (f ρ).bind fun a ρ1 => (g ρ1).bind fun as ρ2 => .ok (.val a.1 :: as) ρ2 := rfl
theorem a_vE {f : Rho → R (D × Bool)} {g : Rho → R (List Av)} : vE f g ρ = (f ρ).bind fun a ρ1 => (g ρ1).bind fun as ρ2 => .ok ((if a.2 then .tmp a.1 else .val a.1) :: as) ρ2 := rfl
theorem a_fnP {n : Nat} {tl : List (Nat ⊕ D)} {ms : List Bool} {m : Mir} {fa : Rho → R (List Av)} : sFnP n tl ms m fa ρ = (fa ρ).bind fun as ρ1 => sRun n tl ms m [] as ρ1 := rfl
theorem a_it {f : Rho → R Opd} : sIt f ρ = (f ρ).bind fun o ρ1 => R.of (walkD o) ρ1 := rfl
theorem a_enum {f : Rho → R (List Opd)} : sEnum f ρ = (f ρ).bind fun os ρ1 => R.of (enumO os) ρ1 := rfl
theorem a_lc {vs : List Nat} {t : Tg} {it : Rho → R (List D)} {tt : Rho → R Bool} {f : Rho → R (D × Bool)} : sLc vs t it tt f ρ =
  (it ρ).bind fun ds ρ1 => (lcLoop vs t tt f ds [] (wipeR ρ1 vs)).bind fun acc ρ2 => .ok (.lst acc, true) ρ2 := rfl
theorem a_par {i j : Nat} {g : Rho → R (List Opd)} : sPar i j g ρ = Rx (g ρ) fun os ρ1 => match vals os with
  | some [d, e] => (match (put1 i d ρ1).bind (put1 j e) with
    | some ρ2 => .nx ρ2
    | none => .err)
  | _ => .err := rfl
theorem a_asg {t : Tg} {f : Rho → R Opd} : sAsg t f ρ = Rx (f ρ) fun o ρ1 => match o with
  | .val d => (match t.set d ρ1 with
    | some ρ2 => .nx ρ2
    | none => .err)
  | .var _ => .err := rfl
theorem a_setIx {i : Nat} {fi fv : Rho → R (D × Bool)} : sSetIx i fi fv ρ = Rx (fv ρ) fun a ρ1 => if isLst ρ1[i]? = true then Rx (fi ρ1) fun b ρ2 => (match setIx i b.1 a.1 ρ2 with
  | some ρ3 => .nx ρ3
  | none => .err) else .err := rfl
theorem a_setF {cs : List PySem.Str} {i : Nat} {f : PySem.Str} {fv : Rho → R (D × Bool)} : sSetF cs i f fv ρ = Rx (fv ρ) fun a ρ1 => match setF cs i f a.1 ρ1 with
  | some ρ2 => .nx ρ2
  | none => .err := rfl
theorem a_mut {g : D → List D → Option (D × D)} {i : Nat} {fa : Rho → R (List Opd)} : sMut g i fa ρ = if isLst ρ[i]? = true then (fa ρ).bind fun os ρ1 => (match (vals os).bind (mutAt g i ρ1) with
    | some p => .ok (p.1, false) p.2
    | none => .err) else .err := rfl
theorem a_lenSet {f : Rho → R Opd} : sLenSet f ρ = (f ρ).bind fun o ρ1 => match o with
  | .val (.str z) => if z.length < 4000 then .ok (.int (nub z).length, false) ρ1 else .err
  | _ => .err := rfl
theorem a_join {f g : Rho → R Opd} : sJoin f g ρ = (f ρ).bind fun o ρ1 => match o with
  | .val (.str s) => (g ρ1).bind fun o2 ρ2 => R.of ((peek ρ2 o2).bind (gJoin (.str s))) ρ2
  | _ => .err := rfl
theorem a_oName {i : Nat} : oName i ρ = match ρ[i]? with
  | some (some (d, .sh)) => .ok (.val d) ρ
  | some (some _) => .ok (.var i) ρ
  | _ => .err := rfl
theorem a_sName {i : Nat} : sName i ρ = match ρ[i]? with
  | some (some (d, .sh)) => .ok (d, false) ρ
  | some (some (d, .ow)) => .ok (d, false) (ρ.set i (some (d, .sh)))
  | _ => .err := rfl
theorem a_retV {i : Nat} : sRetV i ρ = match ρ[i]? with
  | some (some (d, .sh)) => .rt d false ρ
  | some (some (d, .ow)) => .rt d true (ρ.set i none)
  | _ => .err := rfl
theorem a_vN {i : Nat} {g : Rho → R (List Av)} : vN i g ρ = match ρ[i]? with
  | some (some (d, .sh)) => (g ρ).bind fun as ρ2 => .ok (.val d :: as) ρ2
  | some (some _) => (g ρ).bind fun as ρ2 => .ok (.var i :: as) ρ2
  | _ => .err := rfl
theorem a_run {n : Nat} {tl : List (Nat ⊕ D)} {ms : List Bool} {m : Mir} {ds : List D} {as : List Av} : sRun n tl ms m ds as ρ = if as.length = n then (match tailD ds tl with
    | some ts => callAt ms m (as ++ ts.map .val) ρ
    | none => .err) else .err := rfl
theorem a_callAt {ms : List Bool} {m : Mir} {as : List Av} : callAt ms m as ρ = match argsOf ρ ms as with
  | none => .err
  | some p => match m p.1 with
    | .ok d fr outs => .ok (d, fr) (setOuts p.2 outs ρ)
    | .exc c fs outs => .exc c fs (setOuts p.2 outs ρ)
    | .err => .err := rfl
@[simp] theorem a_peekV {d : D} : peek ρ (.val d) = some d := rfl
@[simp] theorem a_peekN {i : Nat} : peek ρ (.var i) = match ρ[i]? with
    | some (some (d, _)) => some d
    | _ => none := rfl
@[simp] theorem a_peeks0 : peeks ρ [] = some [] := rfl
@[simp] theorem a_peeks1 {o : Opd} {r : List Opd} : peeks ρ (o :: r) = (peek ρ o).bind fun d => (peeks ρ r).map (d :: ·) := rfl
@[simp] theorem a_vals0 : vals [] = some [] := rfl
@[simp] theorem a_vals1 {d : D} {r : List Opd} : vals (.val d :: r) = (vals r).map (d :: ·) := rfl
@[simp] theorem a_isLst0 {ds : List D} : isLst (some (some (.lst ds, .pin))) = true := rfl
@[simp] theorem a_isLst1 {ds : List D} : isLst (some (some (.lst ds, .ow))) = true := rfl
@[simp] theorem a_isPin0 {d : D} : isPin (some (some (d, .sh))) = false := rfl
@[simp] theorem a_isPin1 {d : D} : isPin (some (some (d, .ow))) = false := rfl
@[simp] theorem a_isPin2 : isPin (some none) = false := rfl
@[simp] theorem a_kd0 : kd false = .sh := rfl
@[simp] theorem a_kd1 : kd true = .ow := rfl
@[simp] theorem a_put1 {i : Nat} {d : D} : put1 i d ρ = if isPin ρ[i]? = true then none else some (ρ.set i (some (d, .sh))) := rfl
@[simp] theorem a_args0 : argsOf ρ [] [] = some ([], []) := rfl
@[simp] theorem a_args1 {d : D} {ms : List Bool} {as : List Av} : argsOf ρ (false :: ms) (.val d :: as) = (argsOf ρ ms as).map fun p => (d :: p.1, p.2) := rfl
@[simp] theorem a_args2 {d : D} {ms : List Bool} {as : List Av} : argsOf ρ (true :: ms) (.tmp d :: as) = (argsOf ρ ms as).map fun p => (d :: p.1, none :: p.2) := rfl
@[simp] theorem a_args3 {i : Nat} {ms : List Bool} {as : List Av} : argsOf ρ (true :: ms) (.var i :: as) = match ρ[i]? with
    | some (some (d, k)) => if k = .sh then none else (argsOf ρ ms as).bind fun p => if some i ∈ p.2 then none else some (d :: p.1, some i :: p.2)
    | _ => none := rfl
@[simp] theorem a_so0 {ds : List D} : setOuts [] ds ρ = ρ := rfl
@[simp] theorem a_so1 {i : Nat} {L : List (Option Nat)} {d : D} {ds : List D} : setOuts (some i :: L) (d :: ds) ρ = setOuts L ds (put2 i d ρ) := rfl
@[simp] theorem a_so2 {L : List (Option Nat)} {d : D} {ds : List D} : setOuts (none :: L) (d :: ds) ρ = setOuts L ds ρ := rfl
@[simp] theorem a_put2 {i : Nat} {d : D} : put2 i d ρ = match ρ[i]? with
  | some (some (_, k)) => ρ.set i (some (d, k))
  | _ => ρ := rfl
@[simp] theorem a_outs0 {i : Nat} : outsOf ρ [] i = some [] := rfl
@[simp] theorem a_outs1 {i : Nat} {ms : List Bool} : outsOf ρ (false :: ms) i = outsOf ρ ms (i + 1) := rfl
@[simp] theorem a_outs2 {i : Nat} {ms : List Bool} : outsOf ρ (true :: ms) i = match ρ[i]? with
    | some (some (d, .pin)) => (outsOf ρ ms (i + 1)).map (d :: ·)
    | _ => none := rfl
@[simp] theorem a_rho0 {ms : List Bool} : rho0 ms [] = [] := by cases ms <;> rfl
@[simp] theorem a_rho1 {m : Bool} {ms : List Bool} {d : D} {ds : List D} : rho0 (m :: ms) (d :: ds) = some (d, if m then .pin else .sh) :: rho0 ms ds := rfl
@[simp] theorem a_tail0 {ds : List D} : tailD ds [] = some [] := rfl
@[simp] theorem a_tail1 {ds : List D} {j : Nat} {r : List (Nat ⊕ D)} : tailD ds (.inl j :: r) = (ds[j]?).bind fun d => (tailD ds r).map (d :: ·) := rfl
@[simp] theorem a_tail2 {ds : List D} {d : D} {r : List (Nat ⊕ D)} : tailD ds (.inr d :: r) = (tailD ds r).map (d :: ·) := rfl
@[simp] theorem a_tgN {i : Nat} {d : D} : Tg.set (.nm i) d ρ = put1 i d ρ := by simp [Tg.set]
@[simp] theorem a_tgT {ts : List Tg} {ds : List D} : Tg.set (.tp ts) (.tup ds) ρ = Tg.sets ts ds ρ := by simp [Tg.set]
@[simp] theorem a_tgs0 : Tg.sets [] [] ρ = some ρ := by simp [Tg.sets]
@[simp] theorem a_tgs1 {t : Tg} {ts : List Tg} {d : D} {ds : List D} : Tg.sets (t :: ts) (d :: ds) ρ = (t.set d ρ).bind fun ρ1 => Tg.sets ts ds ρ1 := by simp [Tg.sets]
theorem a_itR {g : List Opd → Option (List D)} {f : Rho → R (List Opd)} : sItR g f ρ = (f ρ).bind fun os ρ1 => R.of (g os) ρ1 := rfl
@[simp] theorem a_rng1 {j : Int} : rng1 [.val (.int j)] = if rOk j = true then some (intsD 0 j.toNat) else none := rfl
@[simp] theorem a_rng2 {i j : Int} : rng2 [.val (.int i), .val (.int j)] = if rOk i = true ∧ rOk j = true then some (intsD i (j - i).toNat) else none := rfl
@[simp] theorem a_wipe0 : wipeR ρ [] = ρ := rfl
@[simp] theorem a_wipe1 {v : Nat} {vs : List Nat} : wipeR ρ (v :: vs) = (wipeR ρ vs).set v none := rfl
@[simp] theorem a_setIx' {i : Nat} {n : Int} {d : D} : setIx i (.int n) d ρ = match ρ[i]? with
  | some (some (.lst ds, k)) => if k = .sh then none else (L2.ixN ds.length n).map fun j => ρ.set i (some (.lst (ds.set j d), k))
  | _ => none := by
  unfold setIx
  cases h : ρ[i]? with
  | none => rfl
  | some o =>
    cases o with
    | none => rfl
    | some p => obtain ⟨d', k⟩ := p; cases d' <;> rfl
@[simp] theorem a_mutAt {g : D → List D → Option (D × D)} {i : Nat} {ds : List D} : mutAt g i ρ ds = match ρ[i]? with
  | some (some (d, k)) => if k = .sh then none else (g d ds).map fun p => (p.1, ρ.set i (some (p.2, k)))
  | _ => none := rfl
end
@[simp] theorem gIx_l {ds : List D} {i : Int} : gIx (.lst ds) (.int i) = (L2.atI ds i).map fun d => (d, false) := rfl
@[simp] theorem gIx_t {ds : List D} {i : Int} : gIx (.tup ds) (.int i) = (L2.atI ds i).map fun d => (d, false) := rfl
@[simp] theorem gIx_c {ds : List D} {i : Int} : gIx (.scr ds) (.int i) = (L2.atI ds i).map fun d => (d, false) := rfl
@[simp] theorem gInt_i {i : Int} : gInt [.int i] = some (.int i, false) := rfl
@[simp] theorem gMin_i {i j : Int} : gMin [.int i, .int j] = some (.int (if j < i then j else i), false) := rfl
@[simp] theorem gMax_i {i j : Int} : gMax [.int i, .int j] = some (.int (if j > i then j else i), false) := rfl
@[simp] theorem gAbs_i {i : Int} : gAbs [.int i] = some (.int (if i < 0 then -i else i), false) := rfl
@[simp] theorem gLen_l {ds : List D} : gLen [.lst ds] = some (.int ds.length, false) := rfl
@[simp] theorem gLen_t {ds : List D} : gLen [.tup ds] = some (.int ds.length, false) := rfl
@[simp] theorem gLen_c {ds : List D} : gLen [.scr ds] = some (.int ds.length, false) := rfl
theorem gLen_s {z : List Cp} (h : z.length ≤ PySem.sizeLine) : gLen [.str z] = some (.int z.length, false) := by simp [gLen, h]
theorem gIx_s {z : List Cp} {i : Int} (h : z.length ≤ PySem.sizeLine) : gIx (.str z) (.int i) = (L2.atI z i).map fun c => (.str [c], false) := by simp [gIx, h]
theorem gMul_i {i j : Int} (h : i.natAbs < 2 ^ 64 ∨ j.natAbs < 2 ^ 64) : gMul (.int i) (.int j) = some (.int (i * j), false) := by simp only [gMul]; rw [if_pos h]
theorem gMul_l {i : Nat} (h : i < 2 ^ 64) {j : Int} : gMul (.int (i : Int)) (.int j) = some (.int ((i : Int) * j), false) := gMul_i (.inl (by omega))
theorem atI_nat {α : Type} {xs : List α} {i : Nat} : L2.atI xs (i : Int) = xs[i]? := by
  unfold L2.atI L2.ixN
  rw [if_pos (by omega)]
  by_cases h : i < xs.length
  · rw [if_pos (by omega)]; simp
  · rw [if_neg (by omega), List.getElem?_eq_none (by omega)]; rfl
end Nu
namespace Nu
variable {ρ ρ' : Rho}
/-! ## loops -/
def forStep (t : Tg) (body : Rho → Ss) (d : D) (ρ : Rho) : Ss := match t.set d ρ with
  | none => .err
  | some ρ1 => body ρ1
theorem for_nil {t : Tg} {body : Rho → Ss} : forLoop t body [] ρ = .nx ρ := rfl
theorem for_cons {t : Tg} {body : Rho → Ss} {d : D} {ds : List D} : forLoop t body (d :: ds) ρ = match forStep t body d ρ with
    | .nx ρ2 => forLoop t body ds ρ2
    | .ct ρ2 => forLoop t body ds ρ2
    | .bk ρ2 => .nx ρ2
    | r => r := by
  unfold forStep
  simp only [forLoop]
  cases t.set d ρ <;> rfl
theorem for_nx {t : Tg} {body : Rho → Ss} {d : D} {ds : List D} {ρ2 : Rho} (h : forStep t body d ρ = .nx ρ2) : forLoop t body (d :: ds) ρ = forLoop t body ds ρ2 := by rw [for_cons, h]
theorem for_rt {t : Tg} {body : Rho → Ss} {d v : D} {fr : Bool} {ds : List D} {ρ2 : Rho} (h : forStep t body d ρ = .rt v fr ρ2) : forLoop t body (d :: ds) ρ = .rt v fr ρ2 := by rw [for_cons, h]
/-- every turn goes on -/
theorem for_inv {t : Tg} {body : Rho → Ss} (J : Nat → Rho → Prop) : ∀ (ds : List D) (k : Nat) (ρ : Rho), J k ρ → (∀ j (h : j < ds.length) ρ, J (k + j) ρ → ∃ ρ2, forStep t body ds[j] ρ = .nx ρ2 ∧ J (k + j + 1) ρ2) →
    ∃ ρ', forLoop t body ds ρ = .nx ρ' ∧ J (k + ds.length) ρ'
  | [], k, ρ, h, _ => ⟨ρ, rfl, h⟩
  | d :: ds, k, ρ, h, st => by
    obtain ⟨ρ2, e1, h2⟩ := st 0 (by simp) ρ h
    obtain ⟨ρ', e3, h3⟩ := for_inv J ds (k + 1) ρ2 h2 fun j hj r hr => by
      have := st (j + 1) (by simpa using hj) r (by rw [show k + (j + 1) = k + 1 + j by omega]; exact hr)
      simpa [show k + (j + 1) + 1 = k + 1 + j + 1 by omega] using this
    refine ⟨ρ', ?_, by rw [List.length_cons, show k + (ds.length + 1) = k + 1 + ds.length by omega]; exact h3⟩
    rw [for_nx (by simpa using e1)]
    exact e3
/-- .. the same of any item -/
theorem for_all {t : Tg} {body : Rho → Ss} (J : Rho → Prop) (ds : List D) (ρ : Rho) (h : J ρ) (st : ∀ d ∈ ds, ∀ ρ, J ρ → ∃ ρ2, forStep t body d ρ = .nx ρ2 ∧ J ρ2) : ∃ ρ', forLoop t body ds ρ = .nx ρ' ∧ J ρ' :=
  for_inv (fun _ => J) ds 0 ρ h fun j hj r hr => st _ (List.getElem_mem hj) r hr
/-- a fold: what the turns make of x -/
theorem for_fold {t : Tg} {body : Rho → Ss} {α β : Type} (u : β → D) (r : α → Rho) (g : α → β → α) : ∀ (xs : List β) (x : α), (∀ b ∈ xs, ∀ x, forStep t body (u b) (r x) = .nx (r (g x b))) → forLoop t body (xs.map u) (r x) = .nx (r (xs.foldl g x))
  | [], x, _ => rfl
  | b :: xs, x, st => by
    rw [List.map_cons, for_nx (st b (by simp) x), for_fold u r g xs _ fun y hy => st y (List.mem_cons_of_mem _ hy)]
    rfl
inductive Pd {α β : Type} (P : α → β → Prop) : List α → List β → Prop
  | nil : Pd P [] []
  | cons {a : α} {b : β} {as : List α} {bs : List β} : P a b → Pd P as bs → Pd P (a :: as) (b :: bs)
def lcStep (vs : List Nat) (t : Tg) (tt : Rho → R Bool) (f : Rho → R (D × Bool)) (d : D) (ρ : Rho) : R (Option D) := match t.set d ρ with
  | none => .err
  | some ρ1 => match tt ρ1 with
    | .ok true ρ2 => (match f ρ2 with
      | .ok a ρ3 => .ok (some a.1) (wipeR ρ3 vs)
      | _ => .err)
    | .ok false ρ2 => .ok none (wipeR ρ2 vs)
    | _ => .err
theorem lc_cons {vs : List Nat} {t : Tg} {tt : Rho → R Bool} {f : Rho → R (D × Bool)} {d : D} {ds acc : List D} : lcLoop vs t tt f (d :: ds) acc ρ = match lcStep vs t tt f d ρ with
    | .ok (some v) ρ' => if acc.length < PySem.sizeLine then lcLoop vs t tt f ds (acc ++ [v]) ρ' else .err
    | .ok none ρ' => lcLoop vs t tt f ds acc ρ'
    | _ => .err := by
  unfold lcStep
  simp only [lcLoop]
  cases t.set d ρ with
  | none => rfl
  | some ρ1 =>
    cases h : tt ρ1 with
    | ok b ρ2 =>
      cases b with
      | true => cases h2 : f ρ2 <;> simp [h, h2]
      | false => simp [h]
    | _ => simp [h]
theorem lc_some {vs : List Nat} {t : Tg} {tt : Rho → R Bool} {f : Rho → R (D × Bool)} {d v : D} {ds acc : List D} (h : lcStep vs t tt f d ρ = .ok (some v) ρ') (hl : acc.length < PySem.sizeLine) : lcLoop vs t tt f (d :: ds) acc ρ = lcLoop vs t tt f ds (acc ++ [v]) ρ' := by
  rw [lc_cons, h]
  simp only [if_pos hl]
theorem lc_none {vs : List Nat} {t : Tg} {tt : Rho → R Bool} {f : Rho → R (D × Bool)} {d : D} {ds acc : List D} (h : lcStep vs t tt f d ρ = .ok none ρ') : lcLoop vs t tt f (d :: ds) acc ρ = lcLoop vs t tt f ds acc ρ' := by
  rw [lc_cons, h]
/-- each item gives a value; what is told of it: P -/
theorem lc_inv {vs : List Nat} {t : Tg} {tt : Rho → R Bool} {f : Rho → R (D × Bool)} (J : Rho → Prop) (P : D → D → Prop) : ∀ (ds acc : List D) (ρ : Rho), J ρ → acc.length + ds.length ≤ PySem.sizeLine →
    (∀ d ∈ ds, ∀ ρ, J ρ → ∃ v ρ', lcStep vs t tt f d ρ = .ok (some v) ρ' ∧ P d v ∧ J ρ') →
    ∃ es ρ', lcLoop vs t tt f ds acc ρ = .ok (acc ++ es) ρ' ∧ Pd P ds es ∧ J ρ'
  | [], acc, ρ, h, _, _ => ⟨[], ρ, by simp [lcLoop], .nil, h⟩
  | d :: ds, acc, ρ, h, hl, st => by
    obtain ⟨v, ρ1, e1, p, h2⟩ := st d (by simp) ρ h
    rw [List.length_cons] at hl
    obtain ⟨es, ρ', e4, q, h3⟩ := lc_inv J P ds (acc ++ [v]) ρ1 h2 (by rw [List.length_append]; simp; omega) fun x hx => st x (List.mem_cons_of_mem _ hx)
    refine ⟨v :: es, ρ', ?_, .cons p q, h3⟩
    rw [lc_some e1 (by omega), e4]
    simp
/-- items may be left out -/
theorem lc_filt {vs : List Nat} {t : Tg} {tt : Rho → R Bool} {f : Rho → R (D × Bool)} (J : Rho → Prop) (P : D → D → Prop) : ∀ (ds acc : List D) (ρ : Rho), J ρ → acc.length + ds.length ≤ PySem.sizeLine →
    (∀ d ∈ ds, ∀ ρ, J ρ → (∃ v ρ', lcStep vs t tt f d ρ = .ok (some v) ρ' ∧ P d v ∧ J ρ') ∨ ∃ ρ', lcStep vs t tt f d ρ = .ok none ρ' ∧ J ρ') →
    ∃ es ρ' xs, lcLoop vs t tt f ds acc ρ = .ok (acc ++ es) ρ' ∧ List.Sublist xs ds ∧ Pd P xs es ∧ J ρ'
  | [], acc, ρ, h, _, _ => ⟨[], ρ, [], by simp [lcLoop], .slnil, .nil, h⟩
  | d :: ds, acc, ρ, h, hl, st => by
    rw [List.length_cons] at hl
    rcases st d (by simp) ρ h with ⟨v, ρ1, e1, p, h2⟩ | ⟨ρ1, e1, h2⟩
    · obtain ⟨es, ρ', xs, e4, sl, q, h3⟩ := lc_filt J P ds (acc ++ [v]) ρ1 h2 (by rw [List.length_append]; simp; omega) fun x hx => st x (List.mem_cons_of_mem _ hx)
      refine ⟨v :: es, ρ', d :: xs, ?_, sl.cons_cons d, .cons p q, h3⟩
      rw [lc_some e1 (by omega), e4]
      simp
    · obtain ⟨es, ρ', xs, e4, sl, q, h3⟩ := lc_filt J P ds acc ρ1 h2 (by omega) fun x hx => st x (List.mem_cons_of_mem _ hx)
      exact ⟨es, ρ', xs, by rw [lc_none e1, e4], sl.cons d, q, h3⟩
/-- no state but the item: a map -/
theorem lc_map {vs : List Nat} {t : Tg} {tt : Rho → R Bool} {f : Rho → R (D × Bool)} {α : Type} (u v : α → D) : ∀ (xs : List α) (acc : List D), acc.length + xs.length ≤ PySem.sizeLine →
    (∀ x ∈ xs, lcStep vs t tt f (u x) ρ = .ok (some (v x)) ρ) → lcLoop vs t tt f (xs.map u) acc ρ = .ok (acc ++ xs.map v) ρ
  | [], acc, _, _ => by simp [lcLoop]
  | x :: xs, acc, hl, st => by
    rw [List.length_cons] at hl
    rw [List.map_cons, lc_some (st x (by simp)) (by omega), lc_map u v xs _ (by rw [List.length_append]; simp; omega) fun y hy => st y (List.mem_cons_of_mem _ hy)]
    simp
theorem paired_len {α β : Type} {P : α → β → Prop} : ∀ {xs : List α} {ys : List β}, Pd P xs ys → xs.length = ys.length
  | _, _, .nil => rfl
  | _, _, .cons _ r => by simp [paired_len r]
theorem intsD_eq (lo : Int) (n : Nat) : intsD lo n = (List.range n).map fun (i : Nat) => D.int (lo + (i : Int)) := rfl
theorem chars_eq (z : List Cp) : chars z = z.map fun c => D.str [c] := rfl
@[simp] theorem intsD_len {lo : Int} {n : Nat} : (intsD lo n).length = n := by simp [intsD]
theorem enumD_eq (ds : List D) : enumD ds = ds.zipIdx.map fun p => D.tup [.int (p.2 : Nat), p.1] := rfl
theorem size16 : PySem.sizeLine = 16777216 := PySem.sizeLine_eq
theorem rOk_small {j : Int} (h0 : -1000000 ≤ j) (h : j ≤ 1000000) : rOk j = true := by
  simp only [rOk]
  simp
  omega
/-! ## comparing data -/
theorem beq_dec (x y : Int) : (x == y) = decide (x = y) := by
  by_cases h : x = y <;> simp [h]
theorem strOk_toStr (x : List Cp) : PySem.PyData.strOk (toStr x) = true := by
  unfold PySem.PyData.strOk toStr
  rw [List.all_toArray, List.all_eq_true]
  intro n hn
  obtain ⟨c, _, rfl⟩ := List.mem_map.mp hn
  simpa using c.isLt
@[simp] theorem pyOf_str (x : List Cp) : pyOf (.str x) = some (.str (toStr x)) := by
  have h : PySem.SeqAt.shaped (.str (toStr x)) = true := by
    unfold PySem.SeqAt.shaped
    rw [PySem.PyData.canLay0, strOk_toStr, PySem.PyData.depth]
    rfl
  simp [pyOf, toPy, h]
@[simp] theorem pyOf_int (i : Int) : pyOf (.int i) = some (.int i) := by
  have h : PySem.SeqAt.shaped (.int i) = true := by
    unfold PySem.SeqAt.shaped
    rw [PySem.PyData.canLay0, PySem.PyData.depth]
    rfl
  simp [pyOf, toPy, h]
@[simp] theorem pyOf_non : pyOf .non = some .none := by
  have h : PySem.SeqAt.shaped .none = true := by
    unfold PySem.SeqAt.shaped
    rw [PySem.PyData.canLay0, PySem.PyData.depth]
    rfl
  simp [pyOf, toPy, h]
theorem beq_toStr (x y : List Cp) : (toStr x == toStr y) = decide (x = y) := by
  by_cases h : x = y
  · subst h; simp
  · rw [decide_eq_false h]
    rw [beq_eq_false_iff_ne]
    exact fun e => h (toStr_inj e)
@[simp] theorem gEq_str (x y : List Cp) : gEq (.str x) (.str y) = some (.bl (decide (x = y)), false) := by
  simp [gEq, PySem.PyData.eqv, beq_toStr]
@[simp] theorem gNe_str (x y : List Cp) : gNe (.str x) (.str y) = some (.bl (!decide (x = y)), false) := by
  simp [gNe, PySem.PyData.eqv, beq_toStr]
@[simp] theorem gEq_int (x y : Int) : gEq (.int x) (.int y) = some (.bl (decide (x = y)), false) := by
  simp [gEq, PySem.PyData.eqv, beq_dec]
@[simp] theorem gNe_int (x y : Int) : gNe (.int x) (.int y) = some (.bl (!decide (x = y)), false) := by
  simp [gNe, PySem.PyData.eqv, beq_dec]
theorem toPys_strs : ∀ xs : List (List Cp), toPys (xs.map D.str) = some (xs.map fun x => .str (toStr x))
  | [] => rfl
  | x :: xs => by rw [List.map_cons, toPys, toPys_strs xs, toPy]; rfl
theorem lay_strs : ∀ xs : List (List Cp), PySem.PyData.canLayAll0 (xs.map fun x => .str (toStr x)) = true ∧ PySem.PyData.depthAll (xs.map fun x => .str (toStr x)) = 0
  | [] => ⟨rfl, rfl⟩
  | x :: xs => by
    obtain ⟨h1, h2⟩ := lay_strs xs
    rw [List.map_cons, PySem.PyData.canLayAll0, PySem.PyData.canLay0, strOk_toStr, h1, PySem.PyData.depthAll, h2, PySem.PyData.depth]
    exact ⟨rfl, rfl⟩
theorem pyOf_strs (xs : List (List Cp)) : pyOf (.lst (xs.map D.str)) = some (.list (xs.map fun x => .str (toStr x))) := by
  have h : PySem.SeqAt.shaped (.list (xs.map fun x => .str (toStr x))) = true := by
    unfold PySem.SeqAt.shaped
    rw [PySem.PyData.canLay0, PySem.PyData.depth, (lay_strs xs).1, (lay_strs xs).2]
    rfl
  simp [pyOf, toPy, toPys_strs, h]
theorem eqv_strs : ∀ xs ys : List (List Cp), PySem.PyData.eqvAll (xs.map fun x => .str (toStr x)) (ys.map fun x => .str (toStr x)) = decide (xs = ys)
  | [], [] => rfl
  | [], _ :: _ => rfl
  | _ :: _, [] => rfl
  | x :: xs, y :: ys => by
    rw [List.map_cons, List.map_cons, PySem.PyData.eqvAll, PySem.PyData.eqv, beq_toStr, eqv_strs xs ys]
    by_cases h1 : x = y <;> by_cases h2 : xs = ys <;> simp [h1, h2]
theorem gNe_strs (xs ys : List (List Cp)) : gNe (.lst (xs.map D.str)) (.lst (ys.map D.str)) = some (.bl (!decide (xs = ys)), false) := by
  simp [gNe, pyOf_strs, PySem.PyData.eqv, eqv_strs]
theorem gEq_strs (xs ys : List (List Cp)) : gEq (.lst (xs.map D.str)) (.lst (ys.map D.str)) = some (.bl (decide (xs = ys)), false) := by
  simp [gEq, pyOf_strs, PySem.PyData.eqv, eqv_strs]
@[simp] theorem gIn_c (c : Cp) (z : List Cp) : gIn (.str [c]) (.str z) = some (.bl (decide (c ∈ z)), false) := rfl
@[simp] theorem gIs_non (d : D) : gIs d .non = some (.bl (isNon d), false) := by cases d <;> rfl
@[simp] theorem gNot_non (d : D) : gNot d .non = some (.bl (!isNon d), false) := by cases d <;> rfl
@[simp] theorem isNon_non : isNon .non = true := rfl
@[simp] theorem isNon_str (x : List Cp) : isNon (.str x) = false := rfl
@[simp] theorem isNon_int (x : Int) : isNon (.int x) = false := rfl
@[simp] theorem isi_str (z : List Cp) : gIsi [.str z, .ty "str"] = some (.bl true, false) := rfl
@[simp] theorem isi_tup (z : List D) : gIsi [.tup z, .ty "tuple"] = some (.bl true, false) := rfl
@[simp] theorem isi_int (z : Int) : gIsi [.int z, .ty "int"] = some (.bl true, false) := rfl
@[simp] theorem isi_intb (z : Int) : gIsi [.int z, .ty "bool"] = some (.bl false, false) := rfl
@[simp] theorem gAll_map (bs : List Bool) : gAll [.lst (bs.map D.bl)] = some (.bl (bs.all id), false) := by simp [gAll]
theorem walk_l {ds : List D} : walkD (.val (.lst ds)) = some ds := rfl
@[simp] theorem walk_ll {ds : List D} : walkD (.val (.lst ds)) = some ds := rfl
@[simp] theorem walk_t {ds : List D} : walkD (.val (.tup ds)) = some ds := rfl
@[simp] theorem walk_s {z : List Cp} : walkD (.val (.str z)) = some (chars z) := rfl
@[simp] theorem walk_c {ds : List D} : walkD (.val (.scr ds)) = some ds := rfl
@[simp] theorem enumO_t {ds : List D} : enumO [.val (.tup ds)] = some (enumD ds) := rfl
@[simp] theorem enumO_l {ds : List D} : enumO [.val (.lst ds)] = some (enumD ds) := rfl
@[simp] theorem lit0 : lit "" = [] := rfl
theorem gJoin_s {s : List Cp} {bs : List (List Cp)} (h : (bs.map (·.length)).sum + bs.length * s.length ≤ 16777216) : gJoin (.str s) (.lst (bs.map D.str)) = some (.str (joinL s bs), false) := by
  simp only [gJoin, strsOf_map, Option.bind_some]
  rw [if_pos h]
theorem joinL_nil {α : Type} : ∀ bs : List (List α), joinL [] bs = bs.flatten
  | [] => rfl
  | [x] => by simp [joinL]
  | x :: y :: r => by
    rw [joinL, joinL_nil (y :: r)]
    · simp
    · intro h; cases h
end Nu
namespace Nu
open PySem PySem.Spec PyProof.Rows L2
section
variable {C : Cq} {Z Z' F F' H H' : Hp} {σ σ' : St} {ρ ρ' : Rho} {X : Cx}
/-! ## names that are used no more are forgotten -/
def Ss.wipe (vs : List Nat) : Ss → Ss
  | .nx ρ => .nx (wipeR ρ vs)
  | .ct ρ => .ct (wipeR ρ vs)
  | r => r
def sWp (vs : List Nat) (f : Rho → Ss) (ρ : Rho) : Ss := (f ρ).wipe vs
def sPre (vs : List Nat) (f : Rho → Ss) (ρ : Rho) : Ss := f (wipeR ρ vs)
theorem SR.forgets {K : PySem.W.Frag} {P : Nat → Addr} (S : SR K P Z F σ ρ H) (vs : List Nat) : SR K P Z F σ (wipeR ρ vs) H := S.other rfl fun _ _ => rfl
theorem AtS.wipe {E : Ends} {vs : List Nat} {r : Ss} (h : AtS C Z F E (r.wipe vs)) : AtS C Z F E r := by
  cases r with
  | nx ρ => exact fun F' H' σ' l S => h F' H' σ' l (S.forgets vs)
  | ct ρ => exact fun F' H' σ' l S => h F' H' σ' l (S.forgets vs)
  | _ => exact h
theorem dss_wp {vs : List Nat} {ss : List Stmt} {f : Rho → Ss} (h : PSs X ss (tS C f)) : PSs X ss (tS C (sWp vs f)) :=
  PSs.imp h fun E σ H ⟨Z, F, ρ, S, m⟩ => ⟨Z, F, ρ, S, AtS.wipe m⟩
theorem ds_wp {vs : List Nat} {st : Stmt} {f : Rho → Ss} (h : PS X st (tS C f)) : PS X st (tS C (sWp vs f)) :=
  PS.imp h fun E σ H ⟨Z, F, ρ, S, m⟩ => ⟨Z, F, ρ, S, AtS.wipe m⟩
theorem ds_pre {vs : List Nat} {st : Stmt} {f : Rho → Ss} (h : PS X st (tS C f)) : PS X st (tS C (sPre vs f)) :=
  PS.imp h fun E σ H ⟨Z, F, ρ, S, m⟩ => ⟨Z, F, wipeR ρ vs, S.forgets vs, m⟩
end
end Nu
namespace Nu
variable {α β γ : Type} {ρ : Rho}
/-! ## what is wanted of a result -/
/-- simp does not look into Q -/
structure Tk {α : Sort 1} (Q : α) : Type
/-- a box: what is wanted is not worked out by itself -/
structure Bx (p : Prop) : Prop where
  h : p
def wpR (r : R α) (Q : R α → Prop) (_ : Tk Q := ⟨⟩) : Prop := Bx (Q r)
def wpS (r : Ss) (Q : Ss → Prop) (_ : Tk Q := ⟨⟩) : Prop := Bx (Q r)
def wpM (r : Mr) (Q : Mr → Prop) (_ : Tk Q := ⟨⟩) : Prop := Bx (Q r)
def wpO (o : Option α) (Q : Option α → Prop) (_ : Tk Q := ⟨⟩) : Prop := Bx (Q o)
/-- then g -/
def ThR (g : α → Rho → R β) (Q : R β → Prop) : R α → Prop
  | .ok a ρ => Q (g a ρ)
  | .exc c fs ρ => Q (.exc c fs ρ)
  | .err => Q .err
def ThX (g : α → Rho → Ss) (Q : Ss → Prop) : R α → Prop
  | .ok a ρ => Q (g a ρ)
  | .exc c fs ρ => Q (.exc c fs ρ)
  | .err => Q .err
def ThS (g : Rho → Ss) (Q : Ss → Prop) : Ss → Prop
  | .nx ρ => Q (g ρ)
  | r => Q r
def ThM (L : List (Option Nat)) (ρ : Rho) (Q : R (D × Bool) → Prop) : Mr → Prop
  | .ok d fr outs => Q (.ok (d, fr) (setOuts L outs ρ))
  | .exc c fs outs => Q (.exc c fs (setOuts L outs ρ))
  | .err => Q .err
def ThK (L : List (Option Nat)) (ρ : Rho) (Q : R (D × Bool) → Prop) : Mr → Prop
  | .ok .non false (o :: outs) => Q (.ok (o, true) (setOuts L (o :: outs) ρ))
  | .exc e fs outs => Q (.exc e fs (setOuts L outs ρ))
  | _ => Q .err
def ThW (vs : List Nat) (Q : Ss → Prop) : Ss → Prop := fun r => Q (r.wipe vs)
def ThO (g : α → R β) (Q : R β → Prop) : Option α → Prop
  | some a => Q (g a)
  | none => Q .err
def ThP (g : α → Ss) (Q : Ss → Prop) : Option α → Prop
  | some a => Q (g a)
  | none => Q .err
def ThQ (g : α → Mr) (Q : Mr → Prop) : Option α → Prop
  | some a => Q (g a)
  | none => Q .err
def ThB (ms : List Bool) (Q : Mr → Prop) : Ss → Prop
  | .nx ρ => (ThQ (fun outs => .ok .non false outs) Q) (outsOf ρ ms 0)
  | .rt d fr ρ => (ThQ (fun outs => .ok d fr outs) Q) (outsOf ρ ms 0)
  | .exc c fs ρ => (ThQ (fun outs => .exc c fs outs) Q) (outsOf ρ ms 0)
  | _ => Q .err
def ThC (m : Mir) (ρ : Rho) (Q : R (D × Bool) → Prop) : Option (List D × List (Option Nat)) → Prop
  | some p => (ThM p.2 ρ Q) (m p.1)
  | none => Q .err
def ThD (m : Mir) (ρ : Rho) (Q : R (D × Bool) → Prop) : Option (List D × List (Option Nat)) → Prop
  | some p => (ThK p.2 ρ Q) (m p.1)
  | none => Q .err
def optR (o : Option α) (k : α → R β) : R β := match o with
  | some a => k a
  | none => .err
def optS (o : Option α) (k : α → Ss) : Ss := match o with
  | some a => k a
  | none => .err
def asB : D → Option Bool
  | .bl b => some b
  | _ => none
def asI : D → Option Int
  | .int b => some b
  | _ => none
def asV : Opd → Option D
  | .val d => some d
  | _ => none
def asS : Opd → Option (List Cp)
  | .val (.str s) => some s
  | _ => none
def as2 : Option (List D) → Option (D × D)
  | some [d, e] => some (d, e)
  | _ => none
@[simp] theorem asB_b {b : Bool} : asB (.bl b) = some b := rfl
@[simp] theorem asI_i {b : Int} : asI (.int b) = some b := rfl
@[simp] theorem asV_v {b : D} : asV (.val b) = some b := rfl
@[simp] theorem asS_s {b : List Cp} : asS (.val (.str b)) = some b := rfl
@[simp] theorem as2_2 {d e : D} : as2 (some [d, e]) = some (d, e) := rfl
@[simp] theorem th_ok {g : α → Rho → R β} {Q : R β → Prop} {a : α} : wpR (.ok a ρ) (ThR g Q) = wpR (g a ρ) Q := (rfl)
@[simp ↓] theorem th_exc {g : α → Rho → R β} {Q : R β → Prop} {c : PySem.Str} {fs : List (PySem.Str × D)} : wpR (.exc c fs ρ) (ThR g Q) = wpR (.exc c fs ρ) Q := (rfl)
@[simp] theorem thx_ok {g : α → Rho → Ss} {Q : Ss → Prop} {a : α} : wpR (.ok a ρ) (ThX g Q) = wpS (g a ρ) Q := (rfl)
@[simp ↓] theorem thx_exc {g : α → Rho → Ss} {Q : Ss → Prop} {c : PySem.Str} {fs : List (PySem.Str × D)} : wpR (.exc c fs ρ) (ThX g Q) = wpS (.exc c fs ρ) Q := (rfl)
@[simp] theorem ths_nx {g : Rho → Ss} {Q : Ss → Prop} : wpS (.nx ρ) (ThS g Q) = wpS (g ρ) Q := (rfl)
@[simp ↓] theorem ths_rt {g : Rho → Ss} {Q : Ss → Prop} {d : D} {fr : Bool} : wpS (.rt d fr ρ) (ThS g Q) = wpS (.rt d fr ρ) Q := (rfl)
@[simp ↓] theorem ths_bk {g : Rho → Ss} {Q : Ss → Prop} : wpS (.bk ρ) (ThS g Q) = wpS (.bk ρ) Q := (rfl)
@[simp ↓] theorem ths_ct {g : Rho → Ss} {Q : Ss → Prop} : wpS (.ct ρ) (ThS g Q) = wpS (.ct ρ) Q := (rfl)
@[simp ↓] theorem ths_exc {g : Rho → Ss} {Q : Ss → Prop} {c : PySem.Str} {fs : List (PySem.Str × D)} : wpS (.exc c fs ρ) (ThS g Q) = wpS (.exc c fs ρ) Q := (rfl)
@[simp ↓] theorem thm_ok {L : List (Option Nat)} {Q : R (D × Bool) → Prop} {d : D} {fr : Bool} {outs : List D} : wpM (.ok d fr outs) (ThM L ρ Q) = wpR (.ok (d, fr) (setOuts L outs ρ)) Q := (rfl)
@[simp ↓] theorem thm_exc {L : List (Option Nat)} {Q : R (D × Bool) → Prop} {c : PySem.Str} {fs : List (PySem.Str × D)} {outs : List D} : wpM (.exc c fs outs) (ThM L ρ Q) = wpR (.exc c fs (setOuts L outs ρ)) Q := (rfl)
@[simp ↓] theorem thk_ok {L : List (Option Nat)} {Q : R (D × Bool) → Prop} {o : D} {outs : List D} : wpM (.ok .non false (o :: outs)) (ThK L ρ Q) = wpR (.ok (o, true) (setOuts L (o :: outs) ρ)) Q := (rfl)
@[simp ↓] theorem thk_exc {L : List (Option Nat)} {Q : R (D × Bool) → Prop} {c : PySem.Str} {fs : List (PySem.Str × D)} {outs : List D} : wpM (.exc c fs outs) (ThK L ρ Q) = wpR (.exc c fs (setOuts L outs ρ)) Q := (rfl)
@[simp ↓] theorem thw_nx {vs : List Nat} {Q : Ss → Prop} : wpS (.nx ρ) (ThW vs Q) = wpS (.nx (wipeR ρ vs)) Q := (rfl)
@[simp ↓] theorem thw_ct {vs : List Nat} {Q : Ss → Prop} : wpS (.ct ρ) (ThW vs Q) = wpS (.ct (wipeR ρ vs)) Q := (rfl)
@[simp ↓] theorem thw_bk {vs : List Nat} {Q : Ss → Prop} : wpS (.bk ρ) (ThW vs Q) = wpS (.bk ρ) Q := (rfl)
@[simp ↓] theorem thw_rt {vs : List Nat} {Q : Ss → Prop} {d : D} {fr : Bool} : wpS (.rt d fr ρ) (ThW vs Q) = wpS (.rt d fr ρ) Q := (rfl)
@[simp ↓] theorem thw_exc {vs : List Nat} {Q : Ss → Prop} {c : PySem.Str} {fs : List (PySem.Str × D)} : wpS (.exc c fs ρ) (ThW vs Q) = wpS (.exc c fs ρ) Q := (rfl)
@[simp ↓] theorem tho_some {g : α → R β} {Q : R β → Prop} {a : α} : wpO (some a) (ThO g Q) = wpR (g a) Q := (rfl)
@[simp ↓] theorem thp_some {g : α → Ss} {Q : Ss → Prop} {a : α} : wpO (some a) (ThP g Q) = wpS (g a) Q := (rfl)
@[simp ↓] theorem thq_some {g : α → Mr} {Q : Mr → Prop} {a : α} : wpO (some a) (ThQ g Q) = wpM (g a) Q := (rfl)
@[simp ↓] theorem thc_some {m : Mir} {Q : R (D × Bool) → Prop} {p : List D × List (Option Nat)} : wpO (some p) (ThC m ρ Q) = wpM (m p.1) (ThM p.2 ρ Q) := (rfl)
@[simp ↓] theorem thd_some {m : Mir} {Q : R (D × Bool) → Prop} {p : List D × List (Option Nat)} : wpO (some p) (ThD m ρ Q) = wpM (m p.1) (ThK p.2 ρ Q) := (rfl)
@[simp ↓] theorem thb_nx {ms : List Bool} {Q : Mr → Prop} : wpS (.nx ρ) (ThB ms Q) = wpO (outsOf ρ ms 0) (ThQ (fun outs => .ok .non false outs) Q) := (rfl)
@[simp ↓] theorem thb_rt {ms : List Bool} {Q : Mr → Prop} {d : D} {fr : Bool} : wpS (.rt d fr ρ) (ThB ms Q) = wpO (outsOf ρ ms 0) (ThQ (fun outs => .ok d fr outs) Q) := (rfl)
@[simp ↓] theorem thb_exc {ms : List Bool} {Q : Mr → Prop} {c : PySem.Str} {fs : List (PySem.Str × D)} : wpS (.exc c fs ρ) (ThB ms Q) = wpO (outsOf ρ ms 0) (ThQ (fun outs => .exc c fs outs) Q) := (rfl)
@[simp ↓] theorem wp_bind {r : R α} {g : α → Rho → R β} {Q : R β → Prop} : wpR (r.bind g) Q = wpR r (ThR g Q) := by cases r <;> rfl
@[simp ↓] theorem wp_rx {r : R α} {g : α → Rho → Ss} {Q : Ss → Prop} : wpS (Rx r g) Q = wpR r (ThX g Q) := by cases r <;> rfl
@[simp ↓] theorem wp_seq' {r : Ss} {g : Rho → Ss} {Q : Ss → Prop} : wpS (r.seq g) Q = wpS r (ThS g Q) := by cases r <;> rfl
@[simp ↓] theorem wp_of {o : Option α} {Q : R α → Prop} : wpR (R.of o ρ) Q = wpO o (ThO (fun a => .ok a ρ) Q) := by cases o <;> rfl
@[simp ↓] theorem wp_optR {o : Option α} {k : α → R β} {Q : R β → Prop} : wpR (optR o k) Q = wpO o (ThO k Q) := by cases o <;> rfl
@[simp ↓] theorem wp_optS {o : Option α} {k : α → Ss} {Q : Ss → Prop} : wpS (optS o k) Q = wpO o (ThP k Q) := by cases o <;> rfl
theorem wp_iteR {p : Prop} [Decidable p] {a b : R α} {Q : R α → Prop} : wpR (if p then a else b) Q = if p then wpR a Q else wpR b Q := by split <;> rfl
theorem wp_iteS {p : Prop} [Decidable p] {a b : Ss} {Q : Ss → Prop} : wpS (if p then a else b) Q = if p then wpS a Q else wpS b Q := by split <;> rfl
@[simp ↓] theorem wp_ifR {c : Bool} {a b : R α} {Q : R α → Prop} : wpR (if c = true then a else b) Q = if c = true then wpR a Q else wpR b Q := by split <;> rfl
@[simp ↓] theorem wp_ifS {c : Bool} {a b : Ss} {Q : Ss → Prop} : wpS (if c = true then a else b) Q = if c = true then wpS a Q else wpS b Q := by split <;> rfl
theorem wp_body {ms : List Bool} {n : Nat} {f : Rho → Ss} {ds : List D} {Q : Mr → Prop} (h : wpS (f (rho0 ms ds ++ List.replicate (n - ds.length) none)) (ThB ms Q)) : wpM (bodyM ms n f ds) Q := by
  unfold bodyM
  cases hf : f (rho0 ms ds ++ List.replicate (n - ds.length) none) with
  | nx ρ =>
    rw [hf] at h
    simp only [thb_nx] at h
    cases ho : outsOf ρ ms 0 with
    | none => rw [ho] at h; simp only [ho]; exact h
    | some o => rw [ho] at h; simp only [ho]; exact h
  | rt d fr ρ =>
    rw [hf] at h
    simp only [thb_rt] at h
    cases ho : outsOf ρ ms 0 with
    | none => rw [ho] at h; simp only [ho]; exact h
    | some o => rw [ho] at h; simp only [ho]; exact h
  | exc c fs ρ =>
    rw [hf] at h
    simp only [thb_exc] at h
    cases ho : outsOf ρ ms 0 with
    | none => rw [ho] at h; simp only [ho]; exact h
    | some o => rw [ho] at h; simp only [ho]; exact h
  | bk ρ => rw [hf] at h; exact h
  | ct ρ => rw [hf] at h; exact h
  | err => rw [hf] at h; exact h
theorem wp_conR {r : R α} {Q : R α → Prop} (P : R α → Prop) (h1 : wpR r P) (h2 : ∀ x, P x → wpR x Q) : wpR r Q := h2 r h1.1
theorem wp_conS {r : Ss} {Q : Ss → Prop} (P : Ss → Prop) (h1 : wpS r P) (h2 : ∀ x, P x → wpS x Q) : wpS r Q := h2 r h1.1
theorem okR {r : R α} {P : R α → Prop} (h : P r) : wpR r P := ⟨h⟩
theorem okS {r : Ss} {P : Ss → Prop} (h : P r) : wpS r P := ⟨h⟩
theorem eqM {m x : Mr} (h : wpM m fun r => r = x) : m = x := h.1
theorem okE {x y : Mr} (h : x = y) : wpM x fun r => r = y := ⟨h⟩
theorem okM {x : Mr} : wpM x fun r => r = x := ⟨rfl⟩
/-! ## the combinators, from the outside -/
section
variable {QS : Ss → Prop} {QE : R (D × Bool) → Prop} {QB : R Bool → Prop} {QO : R Opd → Prop} {QI : R (Option Int) → Prop} {QA : R (List Opd) → Prop} {QV : R (List Av) → Prop} {QL : R (List D) → Prop}
@[simp ↓] theorem w_seq {f g : Rho → Ss} : wpS (sSeq f g ρ) QS = wpS (f ρ) (ThS g QS) := wp_seq'
@[simp ↓] theorem w_nx : wpS (sNx ρ) QS = wpS (.nx ρ) QS := (rfl)
@[simp ↓] theorem w_bk : wpS (sBk ρ) QS = wpS (.bk ρ) QS := (rfl)
@[simp ↓] theorem w_ct : wpS (sCt ρ) QS = wpS (.ct ρ) QS := (rfl)
@[simp ↓] theorem w_drop {f : Rho → R (D × Bool)} : wpS (sDrop f ρ) QS = wpR (f ρ) (ThX (fun _ ρ1 => .nx ρ1) QS) := wp_rx
@[simp ↓] theorem w_ret {f : Rho → R (D × Bool)} : wpS (sRet f ρ) QS = wpR (f ρ) (ThX (fun a ρ1 => .rt a.1 a.2 ρ1) QS) := wp_rx
@[simp ↓] theorem w_retN : wpS (sRetN ρ) QS = wpS (.rt .non false ρ) QS := (rfl)
@[simp ↓] theorem w_set {i : Nat} {f : Rho → R (D × Bool)} : wpS (sSet i f ρ) QS = wpR (f ρ) (ThX (fun a ρ1 => if isPin ρ1[i]? = true then .err else .nx (ρ1.set i (some (a.1, kd a.2)))) QS) := wp_rx
@[simp ↓] theorem w_ifS {c : Rho → R Bool} {f g : Rho → Ss} : wpS (sIfS c f g ρ) QS = wpR (c ρ) (ThX (fun b ρ1 => if b = true then f ρ1 else g ρ1) QS) := wp_rx
@[simp ↓] theorem w_for {t : Tg} {it : Rho → R (List D)} {body : Rho → Ss} : wpS (sFor t it body ρ) QS = wpR (it ρ) (ThX (fun ds ρ1 => forLoop t body ds ρ1) QS) := wp_rx
@[simp ↓] theorem w_wp {vs : List Nat} {f : Rho → Ss} : wpS (sWp vs f ρ) QS = wpS (f ρ) (ThW vs QS) := (rfl)
@[simp ↓] theorem w_pre {vs : List Nat} {f : Rho → Ss} : wpS (sPre vs f ρ) QS = wpS (f (wipeR ρ vs)) QS := (rfl)
@[simp ↓] theorem w_opd {f : Rho → R (D × Bool)} : wpR (sOpd f ρ) QO = wpR (f ρ) (ThR (fun a ρ1 => .ok (.val a.1) ρ1) QO) := wp_bind
@[simp ↓] theorem w_c {d : D} : wpR (sC d ρ) QE = wpR (.ok (d, false) ρ) QE := (rfl)
@[simp ↓] theorem w_op2 {g : D → D → Option (D × Bool)} {f1 f2 : Rho → R Opd} : wpR (sOp2 g f1 f2 ρ) QE = wpR (f1 ρ) (ThR (fun o1 ρ1 => (f2 ρ1).bind fun o2 ρ2 => R.of ((peek ρ2 o1).bind fun d1 => (peek ρ2 o2).bind fun d2 => g d1 d2) ρ2) QE) := wp_bind
@[simp ↓] theorem w_test {f : Rho → R (D × Bool)} : wpR (sTest f ρ) QB = wpR (f ρ) (ThR (fun a ρ1 => optR (asB a.1) fun b => .ok b ρ1) QB) := by
  rw [← wp_bind]; congr 1; unfold sTest; congr 1; funext ⟨a, _⟩ ρ1; cases a <;> rfl
@[simp ↓] theorem w_not {f : Rho → R Bool} : wpR (sNot f ρ) QB = wpR (f ρ) (ThR (fun b ρ1 => .ok (!b) ρ1) QB) := wp_bind
@[simp ↓] theorem w_and {f g : Rho → R Bool} : wpR (sAnd f g ρ) QB = wpR (f ρ) (ThR (fun b ρ1 => if b = true then g ρ1 else .ok false ρ1) QB) := wp_bind
@[simp ↓] theorem w_or {f g : Rho → R Bool} : wpR (sOr f g ρ) QB = wpR (f ρ) (ThR (fun b ρ1 => if b = true then .ok true ρ1 else g ρ1) QB) := wp_bind
@[simp ↓] theorem w_andV {f g : Rho → R (D × Bool)} : wpR (sAndV f g ρ) QE = wpR (f ρ) (ThR (fun a ρ1 => optR (asB a.1) fun b => if b = true then g ρ1 else .ok (.bl false, false) ρ1) QE) := by
  rw [← wp_bind]; congr 1; unfold sAndV; congr 1; funext ⟨a, _⟩ ρ1; cases a <;> try rfl
  rename_i b; cases b <;> rfl
@[simp ↓] theorem w_orV {f g : Rho → R (D × Bool)} : wpR (sOrV f g ρ) QE = wpR (f ρ) (ThR (fun a ρ1 => optR (asB a.1) fun b => if b = true then .ok (.bl true, false) ρ1 else g ρ1) QE) := by
  rw [← wp_bind]; congr 1; unfold sOrV; congr 1; funext ⟨a, _⟩ ρ1; cases a <;> try rfl
  rename_i b; cases b <;> rfl
@[simp ↓] theorem w_notV {f : Rho → R (D × Bool)} : wpR (sNotV f ρ) QE = wpR (f ρ) (ThR (fun a ρ1 => optR (asB a.1) fun b => .ok (.bl !b, false) ρ1) QE) := by
  rw [← wp_bind]; congr 1; unfold sNotV; congr 1; funext ⟨a, _⟩ ρ1; cases a <;> rfl
@[simp ↓] theorem w_neg {f : Rho → R (D × Bool)} : wpR (sNeg f ρ) QE = wpR (f ρ) (ThR (fun a ρ1 => optR (asI a.1) fun i => .ok (.int (-i), false) ρ1) QE) := by
  rw [← wp_bind]; congr 1; unfold sNeg; congr 1; funext ⟨a, _⟩ ρ1; cases a <;> rfl
@[simp ↓] theorem w_if {c : Rho → R Bool} {f g : Rho → R α} {Q : R α → Prop} : wpR (sIf c f g ρ) Q = wpR (c ρ) (ThR (fun b ρ1 => if b = true then f ρ1 else g ρ1) Q) := wp_bind
def asBf : D × Bool → Option Bool
  | (.bl b, false) => some b
  | _ => none
@[simp] theorem asBf_b {b : Bool} : asBf (.bl b, false) = some b := rfl
@[simp ↓] theorem w_chain {g1 g2 : D → D → Option (D × Bool)} {f1 f2 f3 : Rho → R Opd} : wpR (sChain g1 g2 f1 f2 f3 ρ) QE = wpR (f1 ρ) (ThR (fun o1 ρ1 => (f2 ρ1).bind fun o2 ρ2 => (R.of ((peek ρ2 o1).bind fun d1 => (peek ρ2 o2).bind fun d2 => g1 d1 d2) ρ2).bind fun a ρ3 => optR (asBf a) fun b =>
    if b = true then (f3 ρ3).bind fun o3 ρ4 => R.of ((peek ρ4 o2).bind fun d2 => (peek ρ4 o3).bind fun d3 => g2 d2 d3) ρ4 else .ok (.bl false, false) ρ3) QE) := by
  rw [← wp_bind]; congr 1; unfold sChain; congr 1; funext o1 ρ1; congr 1; funext o2 ρ2; congr 1; funext ⟨a, fr⟩ ρ3
  cases a <;> try rfl
  rename_i b; cases b <;> cases fr <;> rfl
@[simp ↓] theorem w_noP : wpR (sNoP ρ) QI = wpR (.ok none ρ) QI := (rfl)
@[simp ↓] theorem w_P {f : Rho → R (D × Bool)} : wpR (sP f ρ) QI = wpR (f ρ) (ThR (fun a ρ1 => optR (asI a.1) fun i => .ok (some i) ρ1) QI) := by
  rw [← wp_bind]; congr 1; unfold sP; congr 1; funext ⟨a, _⟩ ρ1; cases a <;> rfl
@[simp ↓] theorem w_sl {g : D → Option Int → Option Int → Option (D × Bool)} {f : Rho → R Opd} {fl fh : Rho → R (Option Int)} : wpR (sSl g f fl fh ρ) QE =
  wpR (f ρ) (ThR (fun o ρ1 => (fl ρ1).bind fun lo ρ2 => (fh ρ2).bind fun hi ρ3 => R.of ((peek ρ3 o).bind fun d => g d lo hi) ρ3) QE) := wp_bind
@[simp ↓] theorem w_nil : wpR (sNil ρ) QA = wpR (.ok [] ρ) QA := (rfl)
@[simp ↓] theorem w_cons {f : Rho → R Opd} {g : Rho → R (List Opd)} : wpR (sCons f g ρ) QA = wpR (f ρ) (ThR (fun o ρ1 => (g ρ1).bind fun os ρ2 => .ok (o :: os) ρ2) QA) := wp_bind
def small (ds : List D) : Option (List D) := if ds.length ≤ PySem.sizeLine then some ds else none
@[simp] theorem small_ok {ds : List D} (h : ds.length ≤ 100000) : small ds = some ds := by
  have : ds.length ≤ PySem.sizeLine := by rw [size16]; omega
  simp [small, this]
@[simp ↓] theorem w_tup {g : Rho → R (List Opd)} : wpR (sTup g ρ) QE = wpR (g ρ) (ThR (fun os ρ1 => R.of (((vals os).bind small).map fun ds => (.tup ds, false)) ρ1) QE) := by
  rw [← wp_bind]; congr 1; unfold sTup; congr 1; funext os ρ1; congr 1; cases vals os with
  | none => rfl
  | some ds => simp only [Option.bind_some, small]; split <;> rfl
@[simp ↓] theorem w_lst {g : Rho → R (List Opd)} : wpR (sLst g ρ) QE = wpR (g ρ) (ThR (fun os ρ1 => R.of (((vals os).bind small).map fun ds => (.lst ds, true)) ρ1) QE) := by
  rw [← wp_bind]; congr 1; unfold sLst; congr 1; funext os ρ1; congr 1; cases vals os with
  | none => rfl
  | some ds => simp only [Option.bind_some, small]; split <;> rfl
@[simp ↓] theorem w_fn {g : List D → Option (D × Bool)} {fa : Rho → R (List Opd)} : wpR (sFn g fa ρ) QE = wpR (fa ρ) (ThR (fun os ρ1 => R.of ((peeks ρ1 os).bind g) ρ1) QE) := wp_bind
@[simp ↓] theorem w_fld {cs : List PySem.Str} {f : PySem.Str} {fo : Rho → R Opd} : wpR (sFld cs f fo ρ) QE = wpR (fo ρ) (ThR (fun o ρ1 => R.of ((peek ρ1 o).bind (getF cs f)) ρ1) QE) := wp_bind
@[simp ↓] theorem w_yes : wpR (sYes ρ) QB = wpR (.ok true ρ) QB := (rfl)
@[simp ↓] theorem w_vNil : wpR (vNil ρ) QV = wpR (.ok [] ρ) QV := (rfl)
@[simp ↓] theorem w_vS {f : Rho → R (D × Bool)} {g : Rho → R (List Av)} : wpR (vS f g ρ) QV = wpR (f ρ) (ThR (fun a ρ1 => (g ρ1).bind fun as ρ2 => .ok (.val a.1 :: as) ρ2) QV) := wp_bind
def mkAv (a : D × Bool) : Av := if a.2 then .tmp a.1 else .val a.1
@[simp] theorem mkAv_t {d : D} : mkAv (d, true) = .tmp d := rfl
@[simp] theorem mkAv_f {d : D} : mkAv (d, false) = .val d := rfl
@[simp ↓] theorem w_vE {f : Rho → R (D × Bool)} {g : Rho → R (List Av)} : wpR (vE f g ρ) QV = wpR (f ρ) (ThR (fun a ρ1 => (g ρ1).bind fun as ρ2 => .ok (mkAv a :: as) ρ2) QV) := wp_bind
@[simp ↓] theorem w_fnP {n : Nat} {tl : List (Nat ⊕ D)} {ms : List Bool} {m : Mir} {fa : Rho → R (List Av)} : wpR (sFnP n tl ms m fa ρ) QE = wpR (fa ρ) (ThR (fun as ρ1 => sRun n tl ms m [] as ρ1) QE) := wp_bind
@[simp ↓] theorem w_fnK {n nk : Nat} {tl : List (Nat ⊕ D)} {ms : List Bool} {m : Mir} {fa : Rho → R (List Av)} {fk : Rho → R (List Opd)} : wpR (sFnK n nk tl ms m fa fk ρ) QE = wpR (fa ρ) (ThR (fun as ρ1 => sKw n nk tl ms m fk as ρ1) QE) := wp_bind
@[simp ↓] theorem w_it {f : Rho → R Opd} : wpR (sIt f ρ) QL = wpR (f ρ) (ThR (fun o ρ1 => R.of (walkD o) ρ1) QL) := wp_bind
@[simp ↓] theorem w_itR {g : List Opd → Option (List D)} {f : Rho → R (List Opd)} : wpR (sItR g f ρ) QL = wpR (f ρ) (ThR (fun os ρ1 => R.of (g os) ρ1) QL) := wp_bind
@[simp ↓] theorem w_enum {f : Rho → R (List Opd)} : wpR (sEnum f ρ) QL = wpR (f ρ) (ThR (fun os ρ1 => R.of (enumO os) ρ1) QL) := wp_bind
@[simp ↓] theorem w_lc {vs : List Nat} {t : Tg} {it : Rho → R (List D)} {tt : Rho → R Bool} {f : Rho → R (D × Bool)} : wpR (sLc vs t it tt f ρ) QE =
  wpR (it ρ) (ThR (fun ds ρ1 => (lcLoop vs t tt f ds [] (wipeR ρ1 vs)).bind fun acc ρ2 => .ok (.lst acc, true) ρ2) QE) := wp_bind
@[simp ↓] theorem w_par {i j : Nat} {g : Rho → R (List Opd)} : wpS (sPar i j g ρ) QS = wpR (g ρ) (ThX (fun os ρ1 => optS ((as2 (vals os)).bind fun p => (put1 i p.1 ρ1).bind (put1 j p.2)) fun ρ2 => .nx ρ2) QS) := by
  rw [← wp_rx]; congr 1; unfold sPar; congr 1; funext os ρ1
  cases vals os with
  | none => rfl
  | some l => match l with
    | [] => rfl
    | [_] => rfl
    | [d, e] => simp only [as2, Option.bind_some]; cases (put1 i d ρ1).bind (put1 j e) <;> rfl
    | _ :: _ :: _ :: _ => rfl
@[simp ↓] theorem w_asg {t : Tg} {f : Rho → R Opd} : wpS (sAsg t f ρ) QS = wpR (f ρ) (ThX (fun o ρ1 => optS ((asV o).bind fun d => t.set d ρ1) fun ρ2 => .nx ρ2) QS) := by
  rw [← wp_rx]; congr 1; unfold sAsg; congr 1; funext o ρ1
  cases o with
  | val d => simp only [asV, Option.bind_some]; cases t.set d ρ1 <;> rfl
  | var i => rfl
@[simp ↓] theorem w_setIx {i : Nat} {fi fv : Rho → R (D × Bool)} : wpS (sSetIx i fi fv ρ) QS = wpR (fv ρ) (ThX (fun a ρ1 => if isLst ρ1[i]? = true then Rx (fi ρ1) fun b ρ2 => (optS (setIx i b.1 a.1 ρ2) fun ρ3 => .nx ρ3) else .err) QS) := by
  rw [← wp_rx]; congr 1; unfold sSetIx; congr 1; funext a ρ1; congr 1; congr 1; funext b ρ2; cases setIx i b.1 a.1 ρ2 <;> rfl
@[simp ↓] theorem w_setF {cs : List PySem.Str} {i : Nat} {f : PySem.Str} {fv : Rho → R (D × Bool)} : wpS (sSetF cs i f fv ρ) QS = wpR (fv ρ) (ThX (fun a ρ1 => optS (setF cs i f a.1 ρ1) fun ρ2 => .nx ρ2) QS) := by
  rw [← wp_rx]; congr 1; unfold sSetF; congr 1; funext a ρ1; cases setF cs i f a.1 ρ1 <;> rfl
@[simp ↓] theorem w_mut {g : D → List D → Option (D × D)} {i : Nat} {fa : Rho → R (List Opd)} : wpR (sMut g i fa ρ) QE = if isLst ρ[i]? = true then wpR (fa ρ) (ThR (fun os ρ1 => optR ((vals os).bind (mutAt g i ρ1)) fun p => .ok (p.1, false) p.2) QE) else wpR .err QE := by
  have key : sMut g i fa ρ = if isLst ρ[i]? = true then (fa ρ).bind (fun os ρ1 => optR ((vals os).bind (mutAt g i ρ1)) fun p => .ok (p.1, false) p.2) else .err := by
    unfold sMut; congr 1; congr 1; funext os ρ1; cases (vals os).bind (mutAt g i ρ1) <;> rfl
  rw [key, wp_iteR, wp_bind]
@[simp ↓] theorem w_join {f g : Rho → R Opd} : wpR (sJoin f g ρ) QE = wpR (f ρ) (ThR (fun o ρ1 => optR (asS o) fun s => (g ρ1).bind fun o2 ρ2 => R.of ((peek ρ2 o2).bind (gJoin (.str s))) ρ2) QE) := by
  rw [← wp_bind]; congr 1; unfold sJoin; congr 1; funext o ρ1
  cases o with
  | val d => cases d <;> rfl
  | var i => rfl
@[simp ↓] theorem w_lenSet {f : Rho → R Opd} : wpR (sLenSet f ρ) QE = wpR (f ρ) (ThR (fun o ρ1 => optR (asS o) fun z => if z.length < 4000 then .ok (.int (nub z).length, false) ρ1 else .err) QE) := by
  rw [← wp_bind]; congr 1; unfold sLenSet; congr 1; funext o ρ1
  cases o with
  | val d => cases d <;> rfl
  | var i => rfl
@[simp ↓] theorem w_meth {tab : PySem.Str → Option MI} {mn : PySem.Str} {n : Nat} {fo : Rho → R Opd} {fa : Rho → R (List Av)} : wpR (sMeth tab mn n fo fa ρ) QE = wpR (fo ρ) (ThR (fun o ρ1 => optR ((peek ρ1 o).bind (mAt tab mn)) fun mi => (fa ρ1).bind fun as ρ2 => sRun (n + 1) mi.tl mi.ms mi.m [] (toAv o :: as) ρ2) QE) := by
  rw [← wp_bind]; congr 1; unfold sMeth; congr 1; funext o ρ1; cases (peek ρ1 o).bind (mAt tab mn) <;> rfl
@[simp ↓] theorem w_methK {tab : PySem.Str → Option MI} {mn : PySem.Str} {n nk : Nat} {fo : Rho → R Opd} {fa : Rho → R (List Av)} {fk : Rho → R (List Opd)} : wpR (sMethK tab mn n nk fo fa fk ρ) QE = wpR (fo ρ) (ThR (fun o ρ1 => optR ((peek ρ1 o).bind (mAt tab mn)) fun mi => (fa ρ1).bind fun as ρ2 => sKw (n + 1) nk mi.tl mi.ms mi.m fk (toAv o :: as) ρ2) QE) := by
  rw [← wp_bind]; congr 1; unfold sMethK; congr 1; funext o ρ1; cases (peek ρ1 o).bind (mAt tab mn) <;> rfl
def lenIs (n : Nat) (ds : List D) : Option (List D) := if ds.length = n then some ds else none
theorem w_kw_aux {os : List Opd} {nk : Nat} {k : List D → R β} : (match vals os with
    | some ds => if ds.length = nk then k ds else .err
    | none => .err) = optR ((vals os).bind (lenIs nk)) k := by
  cases vals os with
  | none => rfl
  | some ds => simp only [Option.bind_some, lenIs]; split <;> rfl
@[simp ↓] theorem w_kw {n nk : Nat} {tl : List (Nat ⊕ D)} {ms : List Bool} {m : Mir} {as : List Av} {fk : Rho → R (List Opd)} : wpR (sKw n nk tl ms m fk as ρ) QE = if noTmp as = true then wpR (fk ρ) (ThR (fun os ρ2 => optR ((vals os).bind (lenIs nk)) fun ds => sRun n tl ms m ds as ρ2) QE) else wpR .err QE := by
  have key : sKw n nk tl ms m fk as ρ = if noTmp as = true then (fk ρ).bind (fun os ρ2 => optR ((vals os).bind (lenIs nk)) fun ds => sRun n tl ms m ds as ρ2) else .err := by
    unfold sKw; congr 1; congr 1; funext os ρ1; exact w_kw_aux
  rw [key, wp_iteR, wp_bind]
@[simp ↓] theorem w_mkP {c : PySem.Str} {n : Nat} {tl : List (Nat ⊕ D)} {ms : List Bool} {m : Mir} {fa : Rho → R (List Av)} : wpR (sMkP c n tl ms m fa ρ) QE = wpR (fa ρ) (ThR (fun as ρ1 => sMk c n tl ms m [] as ρ1) QE) := wp_bind
@[simp ↓] theorem w_mkK {c : PySem.Str} {n nk : Nat} {tl : List (Nat ⊕ D)} {ms : List Bool} {m : Mir} {fa : Rho → R (List Av)} {fk : Rho → R (List Opd)} : wpR (sMkK c n nk tl ms m fa fk ρ) QE = wpR (fa ρ) (ThR (fun as ρ1 => if noTmp as = true then (fk ρ1).bind fun os ρ2 => (optR ((vals os).bind (lenIs nk)) fun ds => sMk c n tl ms m ds as ρ2) else .err) QE) := by
  rw [← wp_bind]; congr 1; unfold sMkK; congr 1; funext as ρ1; congr 1; congr 1; funext os ρ2; exact w_kw_aux
@[simp ↓] theorem w_inst {tab : PySem.Str → Option MI} {n : Nat} {fo : Rho → R Opd} {fa : Rho → R (List Av)} : wpR (sInst tab n fo fa ρ) QE = wpR (fo ρ) (ThR (fun o ρ1 => if isObjD (peek ρ1 o) = true then (fa ρ1).bind fun as ρ2 => optR ((peek ρ2 o).bind (cAt tab)) fun mi => sRun (n + 1) mi.tl mi.ms mi.m [] (toAv o :: as) ρ2 else .err) QE) := by
  rw [← wp_bind]; congr 1; unfold sInst; congr 1; funext o ρ1; congr 1; congr 1; funext as ρ2; cases (peek ρ2 o).bind (cAt tab) <;> rfl
@[simp ↓] theorem w_instK {tab : PySem.Str → Option MI} {n nk : Nat} {fo : Rho → R Opd} {fk : Rho → R (List Opd)} : wpR (sInstK tab n nk fo fk ρ) QE = wpR (fo ρ) (ThR (fun o ρ1 => if isObjD (peek ρ1 o) = true then (fk ρ1).bind fun os ρ2 => (optR ((peek ρ2 o).bind (cAt tab)) fun mi => optR ((vals os).bind (lenIs nk)) fun ds => sRun (n + 1) mi.tl mi.ms mi.m ds [toAv o] ρ2) else .err) QE) := by
  rw [← wp_bind]; congr 1; unfold sInstK; congr 1; funext o ρ1; congr 1; congr 1; funext os ρ2
  unfold instK
  cases (peek ρ2 o).bind (cAt tab) with
  | none => rfl
  | some mi => exact w_kw_aux
@[simp] theorem lenIs_ok {ds : List D} {n : Nat} (h : ds.length = n) : lenIs n ds = some ds := by simp [lenIs, h]
@[simp ↓] theorem w_callAt {ms : List Bool} {m : Mir} {as : List Av} : wpR (callAt ms m as ρ) QE = wpO (argsOf ρ ms as) (ThC m ρ QE) := by
  rw [a_callAt]
  cases argsOf ρ ms as with
  | none => rfl
  | some p => show wpR (match m p.1 with | .ok d fr outs => .ok (d, fr) (setOuts p.2 outs ρ) | .exc c fs outs => .exc c fs (setOuts p.2 outs ρ) | .err => .err) QE = wpM (m p.1) (ThM p.2 ρ QE); cases m p.1 <;> rfl
@[simp ↓] theorem w_run {n : Nat} {tl : List (Nat ⊕ D)} {ms : List Bool} {m : Mir} {ds : List D} {as : List Av} : wpR (sRun n tl ms m ds as ρ) QE = if as.length = n then wpO (tailD ds tl) (ThO (fun ts => callAt ms m (as ++ ts.map .val) ρ) QE) else wpR .err QE := by
  rw [a_run, wp_iteR]
  congr 1
  cases tailD ds tl <;> rfl
@[simp ↓] theorem w_makeAt {c : PySem.Str} {ms : List Bool} {m : Mir} {as : List Av} : wpR (makeAt c ms m as ρ) QE = wpO (argsOf ρ (true :: ms) (.tmp (.obj c []) :: as)) (ThD m ρ QE) := by
  unfold makeAt
  cases argsOf ρ (true :: ms) (.tmp (.obj c []) :: as) with
  | none => rfl
  | some p =>
    show wpR (match m p.1 with
      | .ok .non false (o :: outs) => .ok (o, true) (setOuts p.2 (o :: outs) ρ)
      | .exc e fs outs => .exc e fs (setOuts p.2 outs ρ)
      | _ => .err) QE = wpM (m p.1) (ThK p.2 ρ QE)
    cases m p.1 with
    | ok d fr outs =>
      cases d <;> try rfl
      cases fr <;> try rfl
      cases outs <;> rfl
    | exc c fs outs => rfl
    | err => rfl
@[simp ↓] theorem w_mk {c : PySem.Str} {n : Nat} {tl : List (Nat ⊕ D)} {ms : List Bool} {m : Mir} {ds : List D} {as : List Av} : wpR (sMk c n tl ms m ds as ρ) QE = if as.length = n then wpO (tailD ds tl) (ThO (fun ts => makeAt c ms m (as ++ ts.map .val) ρ) QE) else wpR .err QE := by
  unfold sMk
  rw [wp_iteR]
  congr 1
  cases tailD ds tl <;> rfl
/-! ## names -/
def ThN (i : Nat) (ρ : Rho) (Q : R (D × Bool) → Prop) : Option (Option (D × Kd)) → Prop
  | some (some (d, .sh)) => Q (.ok (d, false) ρ)
  | some (some (d, .ow)) => Q (.ok (d, false) (ρ.set i (some (d, .sh))))
  | _ => Q .err
def ThNo (i : Nat) (ρ : Rho) (Q : R Opd → Prop) : Option (Option (D × Kd)) → Prop
  | some (some (d, .sh)) => Q (.ok (.val d) ρ)
  | some (some _) => Q (.ok (.var i) ρ)
  | _ => Q .err
def ThNr (i : Nat) (ρ : Rho) (Q : Ss → Prop) : Option (Option (D × Kd)) → Prop
  | some (some (d, .sh)) => Q (.rt d false ρ)
  | some (some (d, .ow)) => Q (.rt d true (ρ.set i none))
  | _ => Q .err
def ThNv (i : Nat) (g : Rho → R (List Av)) (ρ : Rho) (Q : R (List Av) → Prop) : Option (Option (D × Kd)) → Prop
  | some (some (d, .sh)) => (ThR (fun as ρ2 => .ok (.val d :: as) ρ2) Q) (g ρ)
  | some (some _) => (ThR (fun as ρ2 => .ok (.var i :: as) ρ2) Q) (g ρ)
  | _ => Q .err
@[simp ↓] theorem w_sName {i : Nat} : wpR (sName i ρ) QE = wpO ρ[i]? (ThN i ρ QE) := by
  unfold sName
  generalize ρ[i]? = o
  match o with
  | none => rfl
  | some none => rfl
  | some (some (d, .sh)) => rfl
  | some (some (d, .ow)) => rfl
  | some (some (d, .pin)) => rfl
@[simp ↓] theorem w_oName {i : Nat} : wpR (oName i ρ) QO = wpO ρ[i]? (ThNo i ρ QO) := by
  unfold oName
  generalize ρ[i]? = o
  match o with
  | none => rfl
  | some none => rfl
  | some (some (d, .sh)) => rfl
  | some (some (d, .ow)) => rfl
  | some (some (d, .pin)) => rfl
@[simp ↓] theorem w_retV {i : Nat} : wpS (sRetV i ρ) QS = wpO ρ[i]? (ThNr i ρ QS) := by
  unfold sRetV
  generalize ρ[i]? = o
  match o with
  | none => rfl
  | some none => rfl
  | some (some (d, .sh)) => rfl
  | some (some (d, .ow)) => rfl
  | some (some (d, .pin)) => rfl
@[simp ↓] theorem w_vN {i : Nat} {g : Rho → R (List Av)} : wpR (vN i g ρ) QV = wpO ρ[i]? (ThNv i g ρ QV) := by
  unfold vN
  generalize ρ[i]? = o
  match o with
  | none => rfl
  | some none => rfl
  | some (some (d, .sh)) => exact wp_bind
  | some (some (d, .ow)) => exact wp_bind
  | some (some (d, .pin)) => exact wp_bind
@[simp ↓] theorem thn_sh {i : Nat} {d : D} : wpO (some (some (d, .sh))) (ThN i ρ QE) = wpR (.ok (d, false) ρ) QE := (rfl)
@[simp ↓] theorem thn_ow {i : Nat} {d : D} : wpO (some (some (d, .ow))) (ThN i ρ QE) = wpR (.ok (d, false) (ρ.set i (some (d, .sh)))) QE := (rfl)
@[simp ↓] theorem thno_sh {i : Nat} {d : D} : wpO (some (some (d, .sh))) (ThNo i ρ QO) = wpR (.ok (.val d) ρ) QO := (rfl)
@[simp ↓] theorem thno_ow {i : Nat} {d : D} : wpO (some (some (d, .ow))) (ThNo i ρ QO) = wpR (.ok (.var i) ρ) QO := (rfl)
@[simp ↓] theorem thno_pin {i : Nat} {d : D} : wpO (some (some (d, .pin))) (ThNo i ρ QO) = wpR (.ok (.var i) ρ) QO := (rfl)
@[simp ↓] theorem thnr_sh {i : Nat} {d : D} : wpO (some (some (d, .sh))) (ThNr i ρ QS) = wpS (.rt d false ρ) QS := (rfl)
@[simp ↓] theorem thnr_ow {i : Nat} {d : D} : wpO (some (some (d, .ow))) (ThNr i ρ QS) = wpS (.rt d true (ρ.set i none)) QS := (rfl)
@[simp ↓] theorem thnv_sh {i : Nat} {d : D} {g : Rho → R (List Av)} : wpO (some (some (d, .sh))) (ThNv i g ρ QV) = wpR (g ρ) (ThR (fun as ρ2 => .ok (.val d :: as) ρ2) QV) := (rfl)
@[simp ↓] theorem thnv_ow {i : Nat} {d : D} {g : Rho → R (List Av)} : wpO (some (some (d, .ow))) (ThNv i g ρ QV) = wpR (g ρ) (ThR (fun as ρ2 => .ok (.var i :: as) ρ2) QV) := (rfl)
@[simp ↓] theorem thnv_pin {i : Nat} {d : D} {g : Rho → R (List Av)} : wpO (some (some (d, .pin))) (ThNv i g ρ QV) = wpR (g ρ) (ThR (fun as ρ2 => .ok (.var i :: as) ρ2) QV) := (rfl)
end
/-! ## loops -/
def ThF (N : Rho → Prop) (Q : Ss → Prop) : Ss → Prop
  | .nx ρ => N ρ
  | .ct ρ => N ρ
  | .bk ρ => Q (.nx ρ)
  | r => Q r
/-- what is to hold at the state: simp looks at the state alone -/
def AtJ (N : Rho → Prop) (ρ : Rho) (_ : Tk N := ⟨⟩) : Prop := Bx (N ρ)
def AtK (N : Option D → Rho → Prop) (o : Option D) (ρ : Rho) (_ : Tk N := ⟨⟩) : Prop := Bx (N o ρ)
theorem at_ {N : Rho → Prop} {ρ : Rho} (h : N ρ) : AtJ N ρ := ⟨h⟩
theorem ak_ {N : Option D → Rho → Prop} {o : Option D} {ρ : Rho} (h : N o ρ) : AtK N o ρ := ⟨h⟩
@[simp ↓] theorem thf_nx {N : Rho → Prop} {Q : Ss → Prop} : wpS (.nx ρ) (ThF N Q) = AtJ N ρ := (rfl)
@[simp ↓] theorem thf_ct {N : Rho → Prop} {Q : Ss → Prop} : wpS (.ct ρ) (ThF N Q) = AtJ N ρ := (rfl)
@[simp ↓] theorem thf_bk {N : Rho → Prop} {Q : Ss → Prop} : wpS (.bk ρ) (ThF N Q) = wpS (.nx ρ) Q := (rfl)
@[simp ↓] theorem thf_rt {N : Rho → Prop} {Q : Ss → Prop} {d : D} {fr : Bool} : wpS (.rt d fr ρ) (ThF N Q) = wpS (.rt d fr ρ) Q := (rfl)
@[simp ↓] theorem thf_exc {N : Rho → Prop} {Q : Ss → Prop} {c : PySem.Str} {fs : List (PySem.Str × D)} : wpS (.exc c fs ρ) (ThF N Q) = wpS (.exc c fs ρ) Q := (rfl)
theorem w_forStep {t : Tg} {body : Rho → Ss} {d : D} {Q : Ss → Prop} : wpS (forStep t body d ρ) Q = wpO (t.set d ρ) (ThP body Q) := by
  unfold forStep
  cases t.set d ρ <;> rfl
/-- turn by turn -/
def ThU (t : Tg) (body : Rho → Ss) (ds : List D) (Q : Ss → Prop) : Ss → Prop
  | .nx ρ => Q (forLoop t body ds ρ)
  | .ct ρ => Q (forLoop t body ds ρ)
  | .bk ρ => Q (.nx ρ)
  | r => Q r
@[simp ↓] theorem thu_nx {t : Tg} {body : Rho → Ss} {ds : List D} {Q : Ss → Prop} : wpS (.nx ρ) (ThU t body ds Q) = wpS (forLoop t body ds ρ) Q := (rfl)
@[simp ↓] theorem thu_ct {t : Tg} {body : Rho → Ss} {ds : List D} {Q : Ss → Prop} : wpS (.ct ρ) (ThU t body ds Q) = wpS (forLoop t body ds ρ) Q := (rfl)
@[simp ↓] theorem thu_bk {t : Tg} {body : Rho → Ss} {ds : List D} {Q : Ss → Prop} : wpS (.bk ρ) (ThU t body ds Q) = wpS (.nx ρ) Q := (rfl)
@[simp ↓] theorem thu_rt {t : Tg} {body : Rho → Ss} {ds : List D} {Q : Ss → Prop} {d : D} {fr : Bool} : wpS (.rt d fr ρ) (ThU t body ds Q) = wpS (.rt d fr ρ) Q := (rfl)
@[simp ↓] theorem thu_exc {t : Tg} {body : Rho → Ss} {ds : List D} {Q : Ss → Prop} {c : PySem.Str} {fs : List (PySem.Str × D)} : wpS (.exc c fs ρ) (ThU t body ds Q) = wpS (.exc c fs ρ) Q := (rfl)
theorem w_forC {t : Tg} {body : Rho → Ss} {d : D} {ds : List D} {Q : Ss → Prop} : wpS (forLoop t body (d :: ds) ρ) Q = wpO (t.set d ρ) (ThP body (ThU t body ds Q)) := by
  rw [← w_forStep]
  show Bx (Q (forLoop t body (d :: ds) ρ)) = Bx (ThU t body ds Q (forStep t body d ρ))
  rw [for_cons]
  cases forStep t body d ρ <;> rfl
theorem w_forN {t : Tg} {body : Rho → Ss} {Q : Ss → Prop} : wpS (forLoop t body [] ρ) Q = wpS (.nx ρ) Q := (rfl)
/-- by an invariant of the number of turns -/
theorem wp_for {t : Tg} {body : Rho → Ss} {Q : Ss → Prop} (J : Nat → Rho → Prop) : ∀ (ds : List D) (k : Nat) (ρ : Rho), J k ρ →
    (∀ j (h : j < ds.length) ρ, J (k + j) ρ → wpO (t.set ds[j] ρ) (ThP body (ThF (J (k + j + 1)) Q))) → (∀ ρ, J (k + ds.length) ρ → wpS (.nx ρ) Q) → wpS (forLoop t body ds ρ) Q
  | [], k, ρ, h, _, he => he ρ h
  | d :: ds, k, ρ, h, st, he => by
    have s0 := st 0 (by simp) ρ h
    have ih := fun ρ2 (h2 : J (k + 1) ρ2) => wp_for (t := t) (body := body) J ds (k + 1) ρ2 h2 (fun j hj r hr => by
      have := st (j + 1) (by simpa using hj) r (by rw [show k + (j + 1) = k + 1 + j by omega]; exact hr)
      rw [show k + (j + 1) + 1 = k + 1 + j + 1 by omega] at this
      exact this) (fun r hr => he r (by rw [List.length_cons, show k + (ds.length + 1) = k + 1 + ds.length by omega]; exact hr))
    simp only [List.getElem_cons_zero, Nat.add_zero] at s0
    rw [← w_forStep] at s0
    unfold wpS
    rw [for_cons]
    cases hb : forStep t body d ρ with
    | nx ρ2 => rw [hb] at s0; exact ih ρ2 s0.1
    | ct ρ2 => rw [hb] at s0; exact ih ρ2 s0.1
    | bk ρ2 => rw [hb] at s0; exact s0
    | rt d fr ρ2 => rw [hb] at s0; exact s0
    | exc c fs ρ2 => rw [hb] at s0; exact s0
    | err => rw [hb] at s0; exact s0
/-- the same for each item -/
theorem wp_forA {t : Tg} {body : Rho → Ss} {Q : Ss → Prop} (J : Rho → Prop) {ds : List D} {ρ : Rho} (h : J ρ) (st : ∀ d ∈ ds, ∀ ρ, J ρ → wpO (t.set d ρ) (ThP body (ThF J Q))) (he : ∀ ρ, J ρ → wpS (.nx ρ) Q) : wpS (forLoop t body ds ρ) Q :=
  wp_for (fun _ => J) ds 0 ρ h (fun j hj r hr => st _ (List.getElem_mem hj) r hr) he
/-- by what is left to be walked -/
theorem wp_forL {t : Tg} {body : Rho → Ss} {Q : Ss → Prop} (J : List D → Rho → Prop) : ∀ (ds : List D) (ρ : Rho), J ds ρ →
    (∀ d ds ρ, J (d :: ds) ρ → wpO (t.set d ρ) (ThP body (ThF (J ds) Q))) → (∀ ρ, J [] ρ → wpS (.nx ρ) Q) → wpS (forLoop t body ds ρ) Q
  | [], ρ, h, _, he => he ρ h
  | d :: ds, ρ, h, st, he => by
    have s0 := st d ds ρ h
    rw [← w_forStep] at s0
    unfold wpS
    rw [for_cons]
    cases hb : forStep t body d ρ with
    | nx ρ2 => rw [hb] at s0; exact wp_forL J ds ρ2 s0.1 st he
    | ct ρ2 => rw [hb] at s0; exact wp_forL J ds ρ2 s0.1 st he
    | bk ρ2 => rw [hb] at s0; exact s0
    | rt d fr ρ2 => rw [hb] at s0; exact s0
    | exc c fs ρ2 => rw [hb] at s0; exact s0
    | err => rw [hb] at s0; exact s0
/-! ## comprehensions -/
def ThL (vs : List Nat) (N : Option D → Rho → Prop) : R (D × Bool) → Prop
  | .ok a ρ => N (some a.1) (wipeR ρ vs)
  | _ => False
def ThT (vs : List Nat) (f : Rho → R (D × Bool)) (N : Option D → Rho → Prop) : R Bool → Prop
  | .ok b ρ => if b = true then ThL vs N (f ρ) else N none (wipeR ρ vs)
  | _ => False
def ThI (vs : List Nat) (tt : Rho → R Bool) (f : Rho → R (D × Bool)) (N : Option D → Rho → Prop) : Option Rho → Prop
  | some ρ => (ThT vs f N) (tt ρ)
  | none => False
@[simp ↓] theorem thl_ok {vs : List Nat} {N : Option D → Rho → Prop} {a : D × Bool} : wpR (.ok a ρ) (ThL vs N) = AtK N (some a.1) (wipeR ρ vs) := (rfl)
@[simp ↓] theorem tht_ok {vs : List Nat} {f : Rho → R (D × Bool)} {N : Option D → Rho → Prop} {b : Bool} : wpR (.ok b ρ) (ThT vs f N) = if b = true then wpR (f ρ) (ThL vs N) else AtK N none (wipeR ρ vs) := by cases b <;> rfl
@[simp ↓] theorem thi_some {vs : List Nat} {tt : Rho → R Bool} {f : Rho → R (D × Bool)} {N : Option D → Rho → Prop} : wpO (some ρ) (ThI vs tt f N) = wpR (tt ρ) (ThT vs f N) := (rfl)
theorem w_lcStep {vs : List Nat} {t : Tg} {tt : Rho → R Bool} {f : Rho → R (D × Bool)} {d : D} {N : Option D → Rho → Prop} (h : wpO (t.set d ρ) (ThI vs tt f N)) : ∃ o ρ', lcStep vs t tt f d ρ = .ok o ρ' ∧ N o ρ' := by
  unfold lcStep
  cases h1 : t.set d ρ with
  | none => rw [h1] at h; exact h.1.elim
  | some ρ1 =>
    rw [h1] at h
    rw [thi_some] at h
    cases h2 : tt ρ1 with
    | exc c fs ρ2 => rw [h2] at h; exact h.1.elim
    | err => rw [h2] at h; exact h.1.elim
    | ok b ρ2 =>
      rw [h2, tht_ok] at h
      cases b with
      | false => exact ⟨none, _, by simp only [h2], (show AtK N none (wipeR ρ2 vs) from h).1⟩
      | true =>
        rw [if_pos rfl] at h
        cases h3 : f ρ2 with
        | exc c fs ρ3 => rw [h3] at h; exact h.1.elim
        | err => rw [h3] at h; exact h.1.elim
        | ok a ρ3 => rw [h3] at h; exact ⟨some a.1, _, by simp only [h2, h3], h.1⟩
def addO (acc : List D) : Option D → List D
  | some v => acc ++ [v]
  | none => acc
@[simp] theorem addO_s {acc : List D} {v : D} : addO acc (some v) = acc ++ [v] := rfl
@[simp] theorem addO_n {acc : List D} : addO acc none = acc := rfl
/-- by an invariant of the number of turns and of what has been gathered -/
theorem wp_lcG {vs : List Nat} {t : Tg} {tt : Rho → R Bool} {f : Rho → R (D × Bool)} {Q : R (List D) → Prop} (J : Nat → List D → Rho → Prop) : ∀ (ds acc : List D) (k : Nat) (ρ : Rho), J k acc ρ → acc.length + ds.length ≤ PySem.sizeLine →
    (∀ j (h : j < ds.length) acc ρ, J (k + j) acc ρ → wpO (t.set ds[j] ρ) (ThI vs tt f fun o ρ' => J (k + j + 1) (addO acc o) ρ')) → (∀ acc ρ, J (k + ds.length) acc ρ → wpR (.ok acc ρ) Q) → wpR (lcLoop vs t tt f ds acc ρ) Q
  | [], acc, k, ρ, h, _, _, he => he acc ρ h
  | d :: ds, acc, k, ρ, h, hl, st, he => by
    obtain ⟨o, ρ1, e1, h1⟩ := w_lcStep (st 0 (by simp) acc ρ h)
    rw [List.getElem_cons_zero] at e1
    rw [List.length_cons] at hl
    have ih := fun acc2 ρ2 (h2 : J (k + 1) acc2 ρ2) (hl2 : acc2.length + ds.length ≤ PySem.sizeLine) => wp_lcG (Q := Q) (vs := vs) (t := t) (tt := tt) (f := f) J ds acc2 (k + 1) ρ2 h2 hl2 (fun j hj a r hr => by
      have := st (j + 1) (by simpa using hj) a r (by rw [show k + (j + 1) = k + 1 + j by omega]; exact hr)
      rw [show k + (j + 1) + 1 = k + 1 + j + 1 by omega] at this
      exact this) (fun a r hr => he a r (by rw [List.length_cons, show k + (ds.length + 1) = k + 1 + ds.length by omega]; exact hr))
    cases o with
    | none =>
      unfold wpR
      rw [lc_none e1]
      exact ih acc ρ1 h1 (by omega)
    | some v =>
      unfold wpR
      rw [lc_some e1 (by omega)]
      exact ih (acc ++ [v]) ρ1 h1 (by rw [List.length_append]; simp; omega)
/-- each item gives a value of which P is told -/
theorem wp_lcA {vs : List Nat} {t : Tg} {tt : Rho → R Bool} {f : Rho → R (D × Bool)} {Q : R (List D) → Prop} (J : Rho → Prop) (P : D → D → Prop) {ds : List D} {ρ : Rho} (h : J ρ) (hl : ds.length ≤ PySem.sizeLine)
    (st : ∀ d ∈ ds, ∀ ρ, J ρ → wpO (t.set d ρ) (ThI vs tt f fun o ρ' => ∃ v, o = some v ∧ P d v ∧ J ρ')) (he : ∀ es ρ, Pd P ds es → J ρ → wpR (.ok es ρ) Q) : wpR (lcLoop vs t tt f ds [] ρ) Q := by
  obtain ⟨es, ρ', e, p, j⟩ := lc_inv J P ds [] ρ h (by simpa using hl) fun d hd ρ hJ => by
    obtain ⟨o, ρ', e1, v, rfl, hp, hj⟩ := w_lcStep (st d hd ρ hJ)
    exact ⟨v, ρ', e1, hp, hj⟩
  unfold wpR
  rw [e]
  exact he _ _ p j
/-- the state stays: a map -/
theorem wp_lcM {vs : List Nat} {t : Tg} {tt : Rho → R Bool} {f : Rho → R (D × Bool)} {Q : R (List D) → Prop} {α : Type} (u v : α → D) (xs : List α) {ρ : Rho} (hl : xs.length ≤ PySem.sizeLine)
    (st : ∀ x ∈ xs, wpO (t.set (u x) ρ) (ThI vs tt f fun o ρ' => o = some (v x) ∧ ρ' = ρ)) (he : wpR (.ok (xs.map v) ρ) Q) : wpR (lcLoop vs t tt f (xs.map u) [] ρ) Q := by
  have := lc_map (vs := vs) (t := t) (tt := tt) (f := f) (ρ := ρ) u v xs [] (by simpa using hl) fun x hx => by
    obtain ⟨o, ρ', e1, rfl, rfl⟩ := w_lcStep (st x hx)
    exact e1
  unfold wpR
  rw [this]
  exact he
/-- the state stays: some are left out -/
theorem wp_lcF {vs : List Nat} {t : Tg} {tt : Rho → R Bool} {f : Rho → R (D × Bool)} {Q : R (List D) → Prop} {α : Type} (u : α → D) (v : α → Option D) (xs : List α) {ρ : Rho} (hl : xs.length ≤ PySem.sizeLine)
    (st : ∀ x ∈ xs, wpO (t.set (u x) ρ) (ThI vs tt f fun o ρ' => o = v x ∧ ρ' = ρ)) (he : wpR (.ok (xs.filterMap v) ρ) Q) : wpR (lcLoop vs t tt f (xs.map u) [] ρ) Q := by
  have key : ∀ (xs : List α) (acc : List D), acc.length + xs.length ≤ PySem.sizeLine → (∀ x ∈ xs, lcStep vs t tt f (u x) ρ = .ok (v x) ρ) → lcLoop vs t tt f (xs.map u) acc ρ = .ok (acc ++ xs.filterMap v) ρ := by
    intro xs
    induction xs with
    | nil => intro acc _ _; simp [lcLoop]
    | cons x xs ih =>
      intro acc hl st
      rw [List.length_cons] at hl
      have s0 := st x (by simp)
      rw [List.map_cons]
      cases hv : v x with
      | none => rw [hv] at s0; rw [lc_none s0, ih acc (by omega) fun y hy => st y (List.mem_cons_of_mem _ hy), List.filterMap_cons_none hv]
      | some w =>
        rw [hv] at s0
        rw [lc_some s0 (by omega), ih _ (by rw [List.length_append]; simp; omega) fun y hy => st y (List.mem_cons_of_mem _ hy), List.filterMap_cons_some hv]
        simp
  have := key xs [] (by simpa using hl) fun x hx => by
    obtain ⟨o, ρ', e1, rfl, rfl⟩ := w_lcStep (st x hx)
    exact e1
  unfold wpR
  rw [this]
  exact he
@[simp] theorem intsD_get {lo : Int} {n j : Nat} (h : j < (intsD lo n).length) : (intsD lo n)[j] = .int (lo + (j : Int)) := by simp [intsD]
@[simp] theorem rOk_s {j : Int} (h0 : -1000000 ≤ j) (h : j ≤ 1000000) : rOk j = true := rOk_small h0 h
@[simp] theorem gMod_ok {i j : Int} (h : 0 < j) : gMod (.int i) (.int j) = some (.int (i % j), false) := gMod_int h
@[simp] theorem gDiv_ok {i j : Int} (h : 0 < j ∧ j < 1073741824) : gDiv (.int i) (.int j) = some (.int (i / j), false) := gDiv_int h
end Nu
namespace Nu
open PySem PySem.Spec PyProof.Rows L2
/-! ## isinstance of own classes -/
structure IsCOk (K : PySem.W.Frag) (cs : List Str) (cn : Str) : Prop where
  own : ∀ c ∈ cs, Cls K (He.ga K c) ∧ PySem.W.findIn K (.ref (He.ga K c)) "__class__" = some (some (.builtin "object.__class__")) ∧ PySem.W.mroIn K (He.ga K c) (.type "object") = some true ∧ PySem.W.kitOne K (.ref (He.ga K c)) (.ref (He.ga K cn)) = some (decide (c = cn))
  sp : PySem.W.specialIn K (.builtin "object.__class__") "__get__" = some (some (.builtin "getset_descriptor.__get__"))
  tk : PySem.W.takesIn K (.builtin "object.__class__") = some true
  blt : ∀ t ∈ bltTys, PySem.W.kitOne K (.type t) (.ref (He.ga K cn)) = some false
theorem fIsC_ok {cs : List Str} {cn : Str} {K : PySem.W.Frag} (h : fIsC cs cn K = true) : IsCOk K cs cn := by
  unfold fIsC at h
  obtain ⟨h1, h⟩ := He.ba h
  obtain ⟨h2, h⟩ := He.ba h
  obtain ⟨h3, h4⟩ := He.ba h
  refine ⟨fun c hc => ?_, of_decide_eq_true h2, of_decide_eq_true h3, fun t ht => of_decide_eq_true (List.all_eq_true.mp h4 t ht)⟩
  obtain ⟨a1, a⟩ := He.ba (List.all_eq_true.mp h1 c hc)
  obtain ⟨a2, a⟩ := He.ba a
  obtain ⟨a3, a4⟩ := He.ba a
  exact ⟨He.cls_ok a1, of_decide_eq_true a2, of_decide_eq_true a3, of_decide_eq_true a4⟩
def gIsC (cs : List Str) (cn : Str) : D → Option (D × Bool)
  | .obj c _ => if c ∈ cs then some (.bl (decide (c = cn)), false) else none
  | d => (tyD d).map fun _ => (.bl false, false)
def sIsC (cs : List Str) (cn : Str) (f : Rho → R Opd) (ρ : Rho) : R (D × Bool) := (f ρ).bind fun o ρ1 => R.of ((peek ρ1 o).bind (gIsC cs cn)) ρ1
section
variable {C : Cq} {Z Z' F F' H H' : Hp} {σ σ' : St} {ρ ρ' : Rho} {X : Cx}
theorem tyD_blt {d : D} {t : String} (h : tyD d = some t) : t ∈ bltTys := by
  cases d <;> cases h <;> decide
theorem de_isC {cs : List Str} {cn : Str} {f : Rho → R Opd} {a : Expr} {p p2 pos : Pos} (hk : X.K = C.K) (hi : IsCOk X.K cs cn) (hg : Gl X "isinstance") (hm : X.mg "isinstance" = none) (hv : bootBuiltins "isinstance" = some (.builtin "isinstance")) (hgc : Gl X cn) (hmc : X.mg cn = some (.ref (He.ga X.K cn))) (h : PE X a (tO C f))
    (hd : (cn == ("__debug__" : Str)) = false := by decide) (he : starEach [a, .Name cn p2] X.env = (false, eval a X.env) :: starEach [.Name cn p2] X.env := by rfl) (he2 : starEach [.Name cn p2] X.env = [(false, eval (.Name cn p2) X.env)] := by rfl) (hpl : (backTo pos (starEach [.Name cn p2] X.env)).any (·.1) = false := by rfl) :
    PE X (.Call (.Name "isinstance" p) [a, .Name cn p2] [] pos) (tE C (sIsC cs cn f)) :=
  PE.imp (pe_callB call_isi hg hm hv (pa_cons h (pa_cons (pe_glob (v := .ref (He.ga X.K cn)) hgc hmc rfl hd) pa_nil he2) he) (by decide) (by decide) he hpl) fun σ H Q ⟨Z, F, ρ, S, m⟩ => tG.step S m fun o ρ1 F1 H1 v l S1 r m1 => by
    show rIsi X.K [v, .ref (He.ga X.K cn)] H1 Q
    cases p : peek ρ1 o with
    | none => rw [p] at m1; exact m1.elim
    | some d =>
      rw [p] at m1
      have rl := peek_rl S1 r p
      have blt : ∀ t, tyD d = some t → gIsC cs cn d = some (.bl false, false) → rIsi X.K [v, .ref (He.ga X.K cn)] H1 Q := fun t e e2 => by
        have m2 : At C (relE C.K) Z F1 σ Q (R.of (gIsC cs cn d) ρ1) := m1
        rw [e2] at m2
        exact ⟨v, _, .type t, _, false, rfl, .own _, by rw [hk]; exact rl.tyX S1.fh e, hi.blt t (tyD_blt e), m2 F1 H1 _ (Evl.Ex.refl F1) S1 (.bl false)⟩
      cases d with
      | obj c fs =>
        have m2 : At C (relE C.K) Z F1 σ Q (R.of (if c ∈ cs then some (.bl (decide (c = cn)), false) else none) ρ1) := m1
        by_cases hc : c ∈ cs
        · rw [if_pos hc] at m2
          obtain ⟨a, dx, vs, rfl, ha, rf⟩ := rl.obj S1.fh
          obtain ⟨h1, h2, h3, h4⟩ := hi.own c hc
          refine ⟨_, _, .ref (He.ga X.K c), _, decide (c = cn), rfl, .own _, .base (.ins (dx := dx) (fs := vs) (by rw [hk]; exact ha) h1 h2 hi.sp hi.tk h3), h4, m2 F1 H1 _ (Evl.Ex.refl F1) S1 (.bl _)⟩
        · rw [if_neg hc] at m2; exact m2.elim
      | non => exact blt _ rfl rfl
      | bl b => exact blt _ rfl rfl
      | int b => exact blt _ rfl rfl
      | str b => exact blt _ rfl rfl
      | tup b => exact blt _ rfl rfl
      | lst b => exact blt _ rfl rfl
      | scr b => exact blt _ rfl rfl
      | ty b => exact m1.elim
end
@[simp ↓] theorem w_isC {cs : List Str} {cn : Str} {f : Rho → R Opd} {ρ : Rho} {QE : R (D × Bool) → Prop} : wpR (sIsC cs cn f ρ) QE = wpR (f ρ) (ThR (fun o ρ1 => R.of ((peek ρ1 o).bind (gIsC cs cn)) ρ1) QE) := wp_bind
@[simp] theorem gIsC_obj {cs : List Str} {cn c : Str} {fs : List (Str × D)} (h : c ∈ cs) : gIsC cs cn (.obj c fs) = some (.bl (decide (c = cn)), false) := by simp [gIsC, h]
/-! ## an empty tuple as a default -/
theorem relEmp {f : Str × Option Str} {i : Nat} {K : PySem.W.Frag} (h : fEmp f i K = true) (F : Hp) : Rel K F (.ref (He.dflAt f i K)) (.tup []) := by
  unfold fEmp at h
  split at h
  · rename_i c od its n sl hl
    obtain ⟨h1, h2⟩ := He.ba h
    have e1 := of_decide_eq_true h1
    subst e1
    have e2 : its.toList = [] := List.isEmpty_iff.mp h2
    exact .tup (.inr ⟨_, its, n, hl, rfl, rfl, by rw [← Array.length_toList, e2]; simp, by rw [e2]; exact .nil⟩) .nil
  · cases h
/-! ## a tuple so many times -/
theorem tuple_mul1 (l : Addr) (items : Array Value) (n : Nat) (dd : Option Addr) (sl : Array (Option Value)) (x : Int) (u : Tok) (c0 : (decide (x < -(2 ^ 63)) || decide (x ≥ 2 ^ 63)) = false) (c1 : (items.isEmpty || x == 1) = true) :
    Meets (Builtin.«tuple.__mul__» ⟨[.ref l, .int x u], []⟩) (fun _ R s => s.heap.get? l = some { cls := .type "tuple", dict := dd, data := .seq items n, slots := sl } ∧ R (.ok (.ret (Value.ref l))) s) :=
  .of_wp fun prog w A R s h => by
    obtain ⟨hp, g, d, tk, os⟩ := s
    obtain ⟨hl, h⟩ := h
    have f1 := AutoSeq1.idx_int
    wp_walk using wpAny_loadPart' hl
    repeat (first
      | (refine wpAny_ite_false (decide_eq_false (by rw [c0]; exact Bool.false_ne_true)) ?_; wp_walk using wpAny_loadPart' hl)
      | (refine wpAny_ite_true (decide_eq_true c1) ?_; wp_walk using wpAny_loadPart' hl))
    exact ⟨_, rfl, h⟩
theorem tuple_mul0 (l : Addr) (items : Array Value) (n : Nat) (dd : Option Addr) (sl : Array (Option Value)) (x : Int) (u : Tok) (c0 : (decide (x < -(2 ^ 63)) || decide (x ≥ 2 ^ 63)) = false) (c1 : (items.isEmpty || x == 1) = false) (c2 : (decide (x ≤ 0) || items.isEmpty) = true) :
    Meets (Builtin.«tuple.__mul__» ⟨[.ref l, .int x u], []⟩) (fun _ R s => s.heap.get? l = some { cls := .type "tuple", dict := dd, data := .seq items n, slots := sl } ∧
      R (.ok (.ret (Value.ref s.heap.objs.size))) { s with heap := s.heap.push { cls := Value.type "tuple", data := Data.seq #[] }, toks := s.toks }) :=
  .of_wp fun prog w A R s h => by
    obtain ⟨hp, g, d, tk, os⟩ := s
    obtain ⟨hl, h⟩ := h
    have f1 := AutoSeq1.idx_int
    wp_walk using wpAny_loadPart' hl
    repeat (first
      | (refine wpAny_ite_false (decide_eq_false (by rw [c0]; exact Bool.false_ne_true)) ?_; wp_walk using wpAny_loadPart' hl)
      | (refine wpAny_ite_false (decide_eq_false (by rw [c1]; exact Bool.false_ne_true)) ?_; wp_walk using wpAny_loadPart' hl)
      | (refine wpAny_ite_true (decide_eq_true c2) ?_; wp_walk using wpAny_loadPart' hl))
    exact ⟨_, rfl, h⟩
def rRepT1 (K : PySem.W.Frag) : R2 := fun x y H Q => ∃ l k xs, x = .ref l ∧ y = .int k ∧ SqT K H l xs ∧ -1000 ≤ k ∧ k ≤ 1000 ∧ (xs = [] ∨ k = 1) ∧ Q (.ref l) H
def rRepT0 (K : PySem.W.Frag) : R2 := fun x y H Q => ∃ l k xs, x = .ref l ∧ y = .int k ∧ SqT K H l xs ∧ xs ≠ [] ∧ -1000 ≤ k ∧ k ≤ 0 ∧ ∀ p, H p = none → Q (.ref p) (upd H p (.tup []))
section
variable {X : Cx}
theorem op_repT1 : OpR X (binaryOp .Mult) (rRepT1 X.K) := by
  intro pins s σ H x y v u Q I rx ry h
  obtain ⟨l, k, xs, rfl, rfl, hT, h1, h2, h3, q⟩ := h
  cases rx
  obtain ⟨t, rfl⟩ := ry
  obtain ⟨its, r, ⟨⟨cls, dd, data, sl⟩, ho, hc, n, hd⟩, hs⟩ := I.tuple hT
  simp only at hc hd
  subst hc hd
  have hle : its.length = xs.length := r.length.symm
  have c0 : (decide (k < -(2 ^ 63)) || decide (k ≥ 2 ^ 63)) = false := by
    rw [decide_eq_false (by omega), decide_eq_false (by omega)] <;> rfl
  have c1 : (its.toArray.isEmpty || k == 1) = true := by
    rcases h3 with h3 | h3
    · subst h3
      rw [List.eq_nil_of_length_eq_zero hle]
      rfl
    · subst h3; simp
  exact wpAny_binaryOp_repeat_ref (T := "tuple") (U := "int") (by decide) ⟨_, ho, rfl⟩ (fun s' => typeIs_int s' k t) noFill_tuple_mul F.fills_int_mul F.slot_int_rmul repeat_tuple F.slot_int_index.lookup
    (call_meets F.slot_int_rmul (typeIs_int s k t) F.entry_int_rmul (F.args_int_rmul_2 _ _) (int_rmul_tuple k t l its.toArray n dd sl)
      ⟨ho, rfl, ⟨_, ho, rfl⟩, call_meets F.slot_tuple_mul ⟨_, ho, rfl⟩ F.entry_tuple_mul (F.args_tuple_mul_2 _ _) (tuple_mul1 l its.toArray n dd sl k t c0 c1) ⟨ho, ⟨.ref l, H, I.tok _, rfl, q⟩⟩⟩)
theorem op_repT0 : OpR X (binaryOp .Mult) (rRepT0 X.K) := by
  intro pins s σ H x y v u Q I rx ry h
  obtain ⟨l, k, xs, rfl, rfl, hT, hne, h1, h2, q⟩ := h
  cases rx
  obtain ⟨t, rfl⟩ := ry
  obtain ⟨its, r, ⟨⟨cls, dd, data, sl⟩, ho, hc, n, hd⟩, hs⟩ := I.tuple hT
  simp only at hc hd
  subst hc hd
  have hle : its.length = xs.length := r.length.symm
  have hi : its.toArray.isEmpty = false := by
    cases its with
    | nil => exact absurd (List.eq_nil_of_length_eq_zero hle.symm) hne
    | cons a b => rfl
  have c0 : (decide (k < -(2 ^ 63)) || decide (k ≥ 2 ^ 63)) = false := by
    rw [decide_eq_false (by omega), decide_eq_false (by omega)] <;> rfl
  have c1 : (its.toArray.isEmpty || k == 1) = false := by
    rw [hi, Bool.false_or]
    exact beq_eq_false_iff_ne.mpr (by omega)
  have c2 : (decide (k ≤ 0) || its.toArray.isEmpty) = true := by
    rw [decide_eq_true h2]; rfl
  refine wpAny_binaryOp_repeat_ref (T := "tuple") (U := "int") (by decide) ⟨_, ho, rfl⟩ (fun s' => typeIs_int s' k t) noFill_tuple_mul F.fills_int_mul F.slot_int_rmul repeat_tuple F.slot_int_index.lookup
    (call_meets F.slot_int_rmul (typeIs_int s k t) F.entry_int_rmul (F.args_int_rmul_2 _ _) (int_rmul_tuple k t l its.toArray n dd sl)
      ⟨ho, rfl, ⟨_, ho, rfl⟩, call_meets F.slot_tuple_mul ⟨_, ho, rfl⟩ F.entry_tuple_mul (F.args_tuple_mul_2 _ _) (tuple_mul0 l its.toArray n dd sl k t c0 c1 c2) ⟨ho, ?_⟩⟩)
  refine ⟨.ref s.heap.objs.size, _, I.laid (t' := s.toks) (o := .tup []) (fun b ob q => Heap.get?_push_of_some _ q) (Nat.le_refl _) ?_, rfl, q _ (I.hok.fresh (Nat.le_refl _))⟩
  exact ⟨by rw [sizeLine_eq]; simp, _, .nil, IsTup.new _ _⟩
end
def gMulT : D → D → Option (D × Bool)
  | .tup ds, .int j => if -1000 ≤ j ∧ j ≤ 1000 ∧ ds.length ≤ 1000 then some (.tup (List.replicate j.toNat ds).flatten, false) else none
  | a, b => gMul a b
section
variable {C : Cq} {X : Cx}
theorem de_mulT {f1 f2 : Rho → R Opd} {a b : Expr} {pos : Pos} (hk : X.K = C.K) (ha : PE X a (tO C f1)) (hb : PE X b (tO C f2)) : PE X (.BinOp a .Mult b pos) (tE C (sOp2 gMulT f1 f2)) := by
  refine de_op2 (OpR.or (OpR.or op_mul (OpR.or op_mulS op_rep)) (OpR.or op_repT1 (OpR.or op_repT0 op_repT))) ?_ ha hb
  intro F H x y dx dy d fr Q l rx ry e k
  cases dy with
  | int j =>
    cases dx with
    | int i =>
      have e' : (if (i.natAbs < 2 ^ 64 ∨ j.natAbs < 2 ^ 64) then some (D.int (i * j), false) else none) = some (d, fr) := e
      split at e'
      · rename_i h
        cases e'
        exact .inl (.inl ⟨i, j, rx.int, ry.int, (show CMul i j from h.elim (fun h => .inl (by omega)) fun h => .inr (by omega)), grow_same l (.int _) k⟩)
      · cases e'
    | str z =>
      have e' : (if j.natAbs < 2 ^ 20 ∧ z.length < 2 ^ 20 ∧ z.length * j.toNat ≤ sizeLine then some (D.str (repS z j), false) else none) = some (d, fr) := e
      split at e'
      · rename_i h
        cases e'
        obtain ⟨h1, h2, h3⟩ := h
        refine .inl (.inr (.inl ⟨_, _, rx.str, ry.int, ⟨?_, ?_, ?_⟩, ?_⟩))
        · rw [decide_eq_false (by omega), decide_eq_false (by omega)]; rfl
        · intro hn _ hc
          rw [toStr_length] at hc
          have : (2 ^ 63 - 1 : Int) / j ≥ 2 ^ 40 := by
            have hj : (0 : Int) < j := by omega
            rw [ge_iff_le, Int.le_ediv_iff_mul_le hj]
            have : (2 : Int) ^ 40 * j ≤ 2 ^ 40 * 2 ^ 20 := Int.mul_le_mul_of_nonneg_left (by omega) (by decide)
            omega
          omega
        · intro hn _
          rw [toStr_length]
          unfold Builtin.Str.tooLong
          exact decide_eq_false (by omega)
        · rw [mul_toStr]; exact grow_same l (.str _) k
      · cases e'
    | lst ds =>
      have e' : (if j.natAbs < 2 ^ 20 ∧ ds.length * j.toNat ≤ sizeLine then some (D.lst (List.replicate j.toNat ds).flatten, true) else none) = some (d, fr) := e
      split at e'
      · rename_i h
        cases e'
        obtain ⟨p, vs, rfl, hp, r1⟩ := rx.lst l
        exact .inl (.inr (.inr ⟨p, j, vs, rfl, ry.int, hp, by omega, by omega, by rw [r1.length]; exact h.2, fun t nt => grow_lst l nt (r1.rep _) k⟩))
      · cases e'
    | tup ds =>
      have e' : (if -1000 ≤ j ∧ j ≤ 1000 ∧ ds.length ≤ 1000 then some (D.tup (List.replicate j.toNat ds).flatten, false) else none) = some (d, fr) := e
      split at e'
      · rename_i h
        obtain ⟨h1, h2, h3⟩ := h
        cases e'
        obtain ⟨p, vs, rfl, hp, hpf, r1⟩ := rx.tup l
        rw [hk]
        by_cases hv : vs = [] ∨ j = 1
        · refine .inr (.inl ⟨p, j, vs, rfl, ry.int, hp, h1, h2, hv, grow_same l ?_ k⟩)
          rcases hv with hv | hv
          · subst hv
            cases r1
            rw [List.flatten_replicate_nil]
            exact .tup hpf .nil
          · subst hv
            rw [show (1 : Int).toNat = 1 from rfl, List.replicate_one, List.flatten_singleton]
            exact .tup hpf r1
        · have hv1 : vs ≠ [] := fun e => hv (.inl e)
          have hv2 : j ≠ 1 := fun e => hv (.inr e)
          by_cases hj : j ≤ 0
          · refine .inr (.inr (.inl ⟨p, j, vs, rfl, ry.int, hp, hv1, h1, hj, fun t nt => ?_⟩))
            rw [show j.toNat = 0 by omega, List.replicate_zero, List.flatten_nil] at k
            exact grow_tup l nt .nil k
          · exact .inr (.inr (.inr ⟨p, j, vs, rfl, ry.int, hp, hv1, by omega, h2, by rw [r1.length]; exact h3, fun t nt => grow_tup l nt (r1.rep _) k⟩))
      · cases e'
    | _ => cases e
  | _ => cases dx <;> cases e
end
@[simp] theorem gMulT_i {i : Int} {d : D} : gMulT (.int i) d = gMul (.int i) d := by cases d <;> rfl
@[simp] theorem gMulT_s {i : List Cp} {d : D} : gMulT (.str i) d = gMul (.str i) d := by cases d <;> rfl
@[simp] theorem gMulT_l {i : List D} {d : D} : gMulT (.lst i) d = gMul (.lst i) d := by cases d <;> rfl
theorem gMulT_t {ds : List D} {j : Int} (h0 : -1000 ≤ j) (h1 : j ≤ 1000) (h2 : ds.length ≤ 1000) : gMulT (.tup ds) (.int j) = some (.tup (List.replicate j.toNat ds).flatten, false) := by
  simp only [gMulT]; rw [if_pos ⟨h0, h1, h2⟩]
end Nu
namespace Nu
open PySem PySem.Spec PyProof.Rows L2
/-! ## a, b = x, y: what is new stays owned -/
def putV (i : Nat) (a : Av) (ρ : Rho) : Option Rho := match a with
  | .val d => if isPin ρ[i]? = true then none else some (ρ.set i (some (d, .sh)))
  | .tmp d => if isPin ρ[i]? = true then none else some (ρ.set i (some (d, .ow)))
  | .var _ => none
def as2V : List Av → Option (Av × Av)
  | [a, b] => some (a, b)
  | _ => none
def sParV (i j : Nat) (g : Rho → R (List Av)) (ρ : Rho) : Ss := Rx (g ρ) fun as ρ1 => optS ((as2V as).bind fun p => (putV i p.1 ρ1).bind (putV j p.2)) fun ρ2 => .nx ρ2
section
variable {C : Cq} {Z Z' F F' H H' : Hp} {σ σ' : St} {ρ ρ' : Rho} {X : Cx}
theorem avs2 {K : PySem.W.Frag} {vs : List V} {a b : Av} (h : Avs K Z F H σ ρ vs [a, b]) : ∃ v w, vs = [v, w] := by
  cases h with
  | val _ r => cases r with
    | val _ q => cases q; exact ⟨_, _, rfl⟩
    | var _ q => cases q; exact ⟨_, _, rfl⟩
    | tmp _ _ _ q => cases q; exact ⟨_, _, rfl⟩
  | var _ r => cases r with
    | val _ q => cases q; exact ⟨_, _, rfl⟩
    | var _ q => cases q; exact ⟨_, _, rfl⟩
    | tmp _ _ _ q => cases q; exact ⟨_, _, rfl⟩
  | tmp _ _ _ r => cases r with
    | val _ q => cases q; exact ⟨_, _, rfl⟩
    | var _ q => cases q; exact ⟨_, _, rfl⟩
    | tmp _ _ _ q => cases q; exact ⟨_, _, rfl⟩
def avD : Av → Option (D × Bool)
  | .val d => some (d, false)
  | .tmp d => some (d, true)
  | .var _ => none
theorem putV_some {i : Nat} {a : Av} (h : putV i a ρ = some ρ') : ∃ p, avD a = some p ∧ isPin ρ[i]? = false ∧ ρ' = ρ.set i (some (p.1, if p.2 then .ow else .sh)) := by
  cases a with
  | val d =>
    simp only [putV] at h
    split at h
    · cases h
    · rename_i hp; cases h; exact ⟨_, rfl, by simpa using hp, rfl⟩
  | tmp d =>
    simp only [putV] at h
    split at h
    · cases h
    · rename_i hp; cases h; exact ⟨_, rfl, by simpa using hp, rfl⟩
  | var i => cases h
theorem SR.parV {K : PySem.W.Frag} {P : Nat → Addr} {i j : Nat} {v w : V} {a b : Av} {ρ1 ρ2 : Rho} (S : SR K P Z F σ ρ H) (r : Avs K Z F H σ ρ [v, w] [a, b]) (h1 : putV i a ρ = some ρ1) (h2 : putV j b ρ1 = some ρ2) : SR K P Z F ((σ.set i (some v)).set j (some w)) ρ2 H := by
  obtain ⟨p, e1, n1, rfl⟩ := putV_some h1
  obtain ⟨q, e2, n2, rfl⟩ := putV_some h2
  have ra : RvR K Z F H σ ρ v p.1 p.2 := by
    cases r with
    | val h _ => cases e1; exact h
    | var _ _ => cases e1
    | tmp h f _ _ => cases e1; exact ⟨_, rfl, h, f⟩
  have S1 := S.store ra n1
  refine S1.store ?_ n2
  cases r with
  | val h r =>
    cases e1
    cases r with
    | val h' _ => cases e2; exact h'
    | var _ _ => cases e2
    | tmp h' f' _ _ => cases e2; exact ⟨_, rfl, h', f'.set (.inr rfl)⟩
  | var _ _ => cases e1
  | tmp h f nt r =>
    cases e1
    cases r with
    | val h' _ => cases e2; exact h'
    | var _ _ => cases e2
    | tmp h' f' _ _ => cases e2; exact ⟨_, rfl, h', f'.set (.inl fun z => by injection z with z; subst z; exact nt (by simp [tmps]))⟩
theorem ds_parV {i j : Nat} {x y : Str} {a b : Expr} {g : Rho → R (List Av)} {px py pt pos : Pos} {kt k2 pt2} (hc : X.calm = true) (hN : X.N.Nodup) (hi : X.N[i]? = some x) (hj : X.N[j]? = some y) (hij : i ≠ j)
    (hx : X.env.scope.names.lookup x = some .local) (hy : X.env.scope.names.lookup y = some .local) (ha : PA X [a, b] (tV C g))
    (hw : swappedStores [.Tuple [.Name x px, .Name y py] kt pt] (.Tuple [a, b] k2 pt2) X.env = pure (some [x, y]))
    (hs : swapsWithSole [.Tuple [.Name x px, .Name y py] kt pt] (.Tuple [a, b] k2 pt2) pos.line X.env = pure false := by rfl) :
    PS X (.Assign [.Tuple [.Name x px, .Name y py] kt pt] (.Tuple [a, b] k2 pt2) pos) (tS C (sParV i j g)) :=
  PS.imp (ps_par hc hN hi hj hij hx hy ha hw hs) fun E σ H ⟨Z, F, ρ, S, m⟩ => tG.stepS S m fun as ρ1 F1 H1 vs l S1 ro m1 => by
    match as, ro, m1 with
    | [], _, m1 => exact m1.elim
    | [_], _, m1 => exact m1.elim
    | _ :: _ :: _ :: _, _, m1 => exact m1.elim
    | [a, b], ro, m1 =>
      obtain ⟨v, w, rfl⟩ := avs2 ro
      refine ⟨v, w, rfl, ?_⟩
      have m2 : AtS C Z F1 E (optS ((putV i a ρ1).bind (putV j b)) fun ρ2 => .nx ρ2) := m1
      cases q : (putV i a ρ1).bind (putV j b) with
      | none => rw [q] at m2; exact m2.elim
      | some ρ2 =>
        rw [q] at m2
        obtain ⟨ρ3, q1, q2⟩ := Option.bind_eq_some_iff.mp q
        exact m2 F1 H1 _ (Evl.Ex.refl F1) (S1.parV ro q1 q2)
end
/-! ## a comprehension turn by turn -/
def ThLu (vs : List Nat) (t : Tg) (tt : Rho → R Bool) (f : Rho → R (D × Bool)) (ds acc : List D) (Q : R (List D) → Prop) : R (D × Bool) → Prop
  | .ok a ρ => Q (lcLoop vs t tt f ds (acc ++ [a.1]) (wipeR ρ vs))
  | _ => Q .err
def ThLt (vs : List Nat) (t : Tg) (tt : Rho → R Bool) (f : Rho → R (D × Bool)) (ds acc : List D) (Q : R (List D) → Prop) : R Bool → Prop
  | .ok b ρ => if b = true then ThLu vs t tt f ds acc Q (f ρ) else Q (lcLoop vs t tt f ds acc (wipeR ρ vs))
  | _ => Q .err
def ThLi (vs : List Nat) (t : Tg) (tt : Rho → R Bool) (f : Rho → R (D × Bool)) (ds acc : List D) (Q : R (List D) → Prop) : Option Rho → Prop
  | some ρ => ThLt vs t tt f ds acc Q (tt ρ)
  | none => Q .err
section
variable {ρ : Rho} {vs : List Nat} {t : Tg} {tt : Rho → R Bool} {f : Rho → R (D × Bool)} {ds acc : List D} {Q : R (List D) → Prop}
@[simp ↓] theorem thlu_ok {a : D × Bool} : wpR (.ok a ρ) (ThLu vs t tt f ds acc Q) = wpR (lcLoop vs t tt f ds (acc ++ [a.1]) (wipeR ρ vs)) Q := (rfl)
@[simp ↓] theorem thlt_ok {b : Bool} : wpR (.ok b ρ) (ThLt vs t tt f ds acc Q) = if b = true then wpR (f ρ) (ThLu vs t tt f ds acc Q) else wpR (lcLoop vs t tt f ds acc (wipeR ρ vs)) Q := by cases b <;> rfl
@[simp ↓] theorem thli_some : wpO (some ρ) (ThLi vs t tt f ds acc Q) = wpR (tt ρ) (ThLt vs t tt f ds acc Q) := (rfl)
theorem w_lcC {d : D} (h : acc.length ≤ 1000) : wpR (lcLoop vs t tt f (d :: ds) acc ρ) Q = wpO (t.set d ρ) (ThLi vs t tt f ds acc Q) := by
  have hl : acc.length < sizeLine := by rw [size16]; omega
  rw [lcLoop]
  cases t.set d ρ with
  | none => rfl
  | some ρ1 =>
    show wpR (match tt ρ1 with
      | .ok true ρ2 => (match f ρ2 with
        | .ok a ρ3 => if acc.length < sizeLine then lcLoop vs t tt f ds (acc ++ [a.1]) (wipeR ρ3 vs) else .err
        | _ => .err)
      | .ok false ρ2 => lcLoop vs t tt f ds acc (wipeR ρ2 vs)
      | _ => .err) Q = wpR (tt ρ1) (ThLt vs t tt f ds acc Q)
    cases tt ρ1 with
    | ok b ρ2 =>
      cases b with
      | true =>
        show wpR (match f ρ2 with
          | .ok a ρ3 => if acc.length < sizeLine then lcLoop vs t tt f ds (acc ++ [a.1]) (wipeR ρ3 vs) else .err
          | _ => .err) Q = wpR (f ρ2) (ThLu vs t tt f ds acc Q)
        cases f ρ2 with
        | ok a ρ3 => simp only [if_pos hl]; rfl
        | _ => rfl
      | false => rfl
    | _ => rfl
theorem w_lcN : wpR (lcLoop vs t tt f [] acc ρ) Q = wpR (.ok acc ρ) Q := (rfl)
end
section
variable {ρ : Rho} {QS : Ss → Prop}
@[simp ↓] theorem w_parV {i j : Nat} {g : Rho → R (List Av)} : wpS (sParV i j g ρ) QS = wpR (g ρ) (ThX (fun as ρ1 => optS ((as2V as).bind fun p => (putV i p.1 ρ1).bind (putV j p.2)) fun ρ2 => .nx ρ2) QS) := wp_rx
@[simp] theorem as2V_2 {a b : Av} : as2V [a, b] = some (a, b) := rfl
@[simp] theorem putV_v {i : Nat} {d : D} : putV i (.val d) ρ = if isPin ρ[i]? = true then none else some (ρ.set i (some (d, .sh))) := rfl
@[simp] theorem putV_t {i : Nat} {d : D} : putV i (.tmp d) ρ = if isPin ρ[i]? = true then none else some (ρ.set i (some (d, .ow))) := rfl
end
end Nu
namespace Nu
open PySem PySem.Spec PyProof.Rows L2
section
variable {C : Cq} {Z Z' F F' H H' : Hp} {σ σ' : St} {ρ ρ' : Rho} {X : Cx}
/-! ## operators of own classes -/
/-- a class's own method that an operator finds -/
structure OpMeth (K : PySem.W.Frag) (c mn : Str) : Prop where
  fi : PySem.W.findIn K (.ref (He.ga K c)) mn = some (some (.ref (He.ma K (He.ga K c) mn)))
  fn : PySem.W.isFn K (.ref (He.ma K (He.ga K c) mn)) = true
  sf : PySem.W.selfFirst K (He.ga K c) = true
theorem fOpM_ok {c mn : Str} {K : PySem.W.Frag} (h : fOpM c mn K = true) : OpMeth K c mn := by
  unfold fOpM at h
  obtain ⟨h1, h⟩ := He.ba h
  obtain ⟨h2, h3⟩ := He.ba h
  exact ⟨of_decide_eq_true h1, h2, h3⟩
def OpOk (X : Cx) (k : Nat) (tab : Str → Option MI) (mn : Str) (n : Nat) : Prop := ∀ c mi, tab c = some mi → OpMeth X.K c mn ∧ FnV X.prog X.w X.K X.mg X.base k (He.ma X.K (He.ga X.K c) mn) n [] mi.tl mi.ms mi.m
def clsOf : D → Option Str
  | .obj c _ => some c
  | _ => none
def isNI : Value → Bool
  | .notImplemented => true
  | _ => false
theorem relV_ni {v : V} {u : Value} (h : RelV v u) : isNI u = false := by
  cases v with
  | non => cases (show u = Value.none from h); rfl
  | bl b => cases (show u = Value.bool b from h); rfl
  | int i => obtain ⟨t, rfl⟩ := h; rfl
  | str i => obtain ⟨t, rfl⟩ := h; rfl
  | flt i => obtain ⟨t, rfl⟩ := h; rfl
  | byt i => obtain ⟨t, rfl⟩ := h; rfl
  | ref a => cases (show u = Value.ref a from h); rfl
  | ty n => cases (show u = Value.type n from h); rfl
theorem back_ok {Q : Value → Shared → Prop} {v : Value} {s : Shared} (h : isNI v = false) (q : Q v s) : PySem.W.CmpBack Q v s := by
  cases v <;> first | exact q | cases h
/-- two objects of one class, and its method -/
def sBin (tab : Str → Option MI) (f1 f2 : Rho → R Opd) (ρ : Rho) : R (D × Bool) :=
  (f1 ρ).bind fun o1 ρ1 => (f2 ρ1).bind fun o2 ρ2 => optR ((((peek ρ2 o1).bind clsOf).bind fun c => ((peek ρ2 o2).bind clsOf).bind fun c' => if c' = c then tab c else none)) fun mi => sRun 2 mi.tl mi.ms mi.m [] [toAv o1, toAv o2] ρ2
theorem peek_ins {K : PySem.W.Frag} {P : Nat → Addr} {v : V} {o : Opd} {c : Str} (S : SR K P Z F σ ρ H) (r : relO K Z F H σ ρ v o) (h : (peek ρ o).bind clsOf = some c) : ∃ a dx vs, v = .ref a ∧ H a = some (.ins (He.ga K c) dx vs) := by
  cases p : peek ρ o with
  | none => rw [p] at h; cases h
  | some d =>
    rw [p] at h
    cases d with
    | obj c' fs =>
      cases h
      obtain ⟨a, dx, vs, rfl, ha, _⟩ := (peek_rl S r p).obj S.fh
      exact ⟨a, dx, vs, rfl, ha⟩
    | _ => cases h
theorem relO_later {K : PySem.W.Frag} {v : V} {o : Opd} {F2 H2 : Hp} {ρ2 : Rho} (l : Le F F2) (r : relO K Z F H σ ρ v o) : relO K Z F2 H2 σ ρ2 v o := relO.mono (Z := Z) (H := H) (H' := H2) (ρ := ρ) (ρ' := ρ2) (K := K) l r
theorem at_opt {α : Type} {Q : VK} {o : Option α} {g : α → R (D × Bool)} (h : At C (relE C.K) Z F σ Q (optR o g)) : ∃ a, o = some a ∧ At C (relE C.K) Z F σ Q (g a) := by
  cases o with
  | none => exact h.elim
  | some a => exact ⟨a, rfl, h⟩
theorem cls2 {tab : Str → Option MI} {o1 o2 : Option Str} {mi : MI} (h : (o1.bind fun c => o2.bind fun c' => if c' = c then tab c else none) = some mi) : ∃ c, o1 = some c ∧ o2 = some c ∧ tab c = some mi := by
  cases o1 with
  | none => cases h
  | some c =>
    cases o2 with
    | none => cases h
    | some c' =>
      have h' : (if c' = c then tab c else none) = some mi := h
      split at h'
      · rename_i e; subst e; exact ⟨c', rfl, rfl, h'⟩
      · cases h'
theorem avs_two {K : PySem.W.Frag} {v w : V} {o1 o2 : Opd} (r1 : relO K Z F H σ ρ v o1) (r2 : relO K Z F H σ ρ w o2) : Avs K Z F H σ ρ [v, w] [toAv o1, toAv o2] :=
  avs_cons (Evl.Ex.refl F) r1 (avs_cons (Evl.Ex.refl F) r2 .nil)
theorem de_bin {op : Operator} {tab : Str → Option MI} {k : Nat} {mn : Str} {a b : Expr} {f1 f2 : Rho → R Opd} {pos : Pos} (hk : X.K = C.K) (hd : PySem.dunder op.info.2 = mn) (hm : OpOk X k tab mn 2) (hr : Room k X.A) (tk : L2N.Takes X C.W) (ha : PE X a (tO C f1)) (hb : PE X b (tO C f2)) :
    PE X (.BinOp a op b pos) (tE C (sBin tab f1 f2)) := by
  refine ⟨fun pins s σ H Q I ⟨Z, F, ρ, S, h⟩ => ?_⟩
  have h1 : tO C f1 σ H (fun x H1 => tO C f2 σ H1 fun y H2 => ∃ F2 ρ2 o1 o2, SR C.K C.P Z F2 σ ρ2 H2 ∧ relO C.K Z F2 H2 σ ρ2 x o1 ∧ relO C.K Z F2 H2 σ ρ2 y o2 ∧ At C (relE C.K) Z F2 σ Q (optR ((((peek ρ2 o1).bind clsOf).bind fun c => ((peek ρ2 o2).bind clsOf).bind fun c' => if c' = c then tab c else none)) fun mi => sRun 2 mi.tl mi.ms mi.m [] [toAv o1, toAv o2] ρ2)) :=
    tG.step S h fun o1 ρ1 F1 H1 v l S1 r m1 => tG.step S1 m1 fun o2 ρ2 F2 H2 w l2 S2 r2 m2 => ⟨F2, ρ2, o1, o2, S2, relO_later l2 r, r2, m2⟩
  refine wpAny_BinOp (binT ha hb I h1 fun v u s2 x y H2 I2 rx ry q => ?_)
  obtain ⟨F2, ρ2, o1, o2, S2, r1, r2, m⟩ := q
  obtain ⟨mi, e, m⟩ := at_opt m
  obtain ⟨c, e1, e2, e3⟩ := cls2 e
  obtain ⟨p, dp, vp, rfl, hp⟩ := peek_ins S2 r1 e1
  obtain ⟨q, dq, vq, rfl, hq⟩ := peek_ins S2 r2 e2
  obtain ⟨M, G⟩ := hm c mi e3
  cases rx
  cases ry
  rw [← hk] at hp hq
  obtain ⟨mA, J, _⟩ := ins_get I2.hok hp
  obtain ⟨mB, J', _⟩ := ins_get I2.hok hq
  obtain ⟨od, J, _⟩ := J.look
  obtain ⟨od', J', _⟩ := J'.look
  obtain ⟨m', hF⟩ := I2.fr
  refine PySem.W.binop_K hF I2.ok.mod.kin J J'.type M.sf (by rw [hd]; exact M.fi) M.fn ?_
  refine wpAny_mono (run_fv (us := [.ref p, .ref q]) (vs := [.ref p, .ref q]) (ws := []) (zs := []) hk G hr tk I2 S2 (.cons rfl (.cons rfl .nil)) .nil (avs_two r1 r2) .nil rfl m) (fun v s' hv => ?_) fun _ _ x => x
  obtain ⟨x, H', I', rx, hq⟩ := hv
  exact back_ok (relV_ni rx) ⟨x, H', I', rx, hq⟩
theorem eqO_at {tab : Str → Option MI} {k : Nat} {pins : List (Addr × Obj)} {s : Shared} {x y : V} {v u : Value} {o1 o2 : Opd} {Q : VK} (hk : X.K = C.K) (hm : OpOk X k tab "__eq__" 2) (hr : Room k X.A) (tk : L2N.Takes X C.W) (I : Inv X pins σ H s) (rx : RelV x v) (ry : RelV y u) (S2 : SR C.K C.P Z F σ ρ H) (r1 : relO C.K Z F H σ ρ x o1) (r2 : relO C.K Z F H σ ρ y o2)
    (m : At C (relE C.K) Z F σ Q (optR ((((peek ρ o1).bind clsOf).bind fun c => ((peek ρ o2).bind clsOf).bind fun c' => if c' = c then tab c else none)) fun mi => sRun 2 mi.tl mi.ms mi.m [] [toAv o1, toAv o2] ρ)) : wpAny (model X.prog X.w) X.A (compareOp .Eq v u) (EP X pins σ Q) X.xe s := by
  obtain ⟨mi, e, m⟩ := at_opt m
  obtain ⟨c, e1, e2, e3⟩ := cls2 e
  obtain ⟨p, dp, vp, rfl, hp⟩ := peek_ins S2 r1 e1
  obtain ⟨q, dq, vq, rfl, hq⟩ := peek_ins S2 r2 e2
  obtain ⟨M, G⟩ := hm c mi e3
  cases rx
  cases ry
  rw [← hk] at hp hq
  obtain ⟨mA, J, _⟩ := ins_get I.hok hp
  obtain ⟨mB, J', _⟩ := ins_get I.hok hq
  obtain ⟨od, J, _⟩ := J.look
  obtain ⟨od', J', _⟩ := J'.look
  obtain ⟨m', hF⟩ := I.fr
  refine PySem.W.cmp_K (op := .Eq) (tb := .ref (He.ga X.K c)) hr.units0 hF I.ok.mod.kin J J'.type (by simp [PySem.W.notFirst]) M.fi M.fn ?_
  refine wpAny_mono (run_fv (us := [.ref p, .ref q]) (vs := [.ref p, .ref q]) (ws := []) (zs := []) hk G hr tk I S2 (.cons rfl (.cons rfl .nil)) .nil (avs_two r1 r2) .nil rfl m) (fun v s' hv => ?_) fun _ _ x => x
  obtain ⟨x, H', I', rx, hq⟩ := hv
  exact back_ok (relV_ni rx) ⟨x, H', I', rx, hq⟩
theorem de_eqO {tab : Str → Option MI} {k : Nat} {a b : Expr} {f1 f2 : Rho → R Opd} {pos : Pos} (hk : X.K = C.K) (hm : OpOk X k tab "__eq__" 2) (hr : Room k X.A) (tk : L2N.Takes X C.W) (ha : PE X a (tO C f1)) (hb : PE X b (tO C f2)) :
    PE X (.Compare a [.Eq] [b] pos) (tE C (sBin tab f1 f2)) := by
  refine ⟨fun pins s σ H Q I ⟨Z, F, ρ, S, h⟩ => ?_⟩
  have h1 : tO C f1 σ H (fun x H1 => tO C f2 σ H1 fun y H2 => ∃ F2 ρ2 o1 o2, SR C.K C.P Z F2 σ ρ2 H2 ∧ relO C.K Z F2 H2 σ ρ2 x o1 ∧ relO C.K Z F2 H2 σ ρ2 y o2 ∧ At C (relE C.K) Z F2 σ Q (optR ((((peek ρ2 o1).bind clsOf).bind fun c => ((peek ρ2 o2).bind clsOf).bind fun c' => if c' = c then tab c else none)) fun mi => sRun 2 mi.tl mi.ms mi.m [] [toAv o1, toAv o2] ρ2)) :=
    tG.step S h fun o1 ρ1 F1 H1 v l S1 r m1 => tG.step S1 m1 fun o2 ρ2 F2 H2 w l2 S2 r2 m2 => ⟨F2, ρ2, o1, o2, S2, relO_later l2 r, r2, m2⟩
  exact wpAny_Compare1 (binT ha hb I h1 fun v u s2 x y H2 I2 rx ry ⟨F2, ρ2, o1, o2, S2, r1, r2, m⟩ => eqO_at hk hm hr tk I2 rx ry S2 r1 r2 m) (nomark b)
theorem dt_eqO {tab : Str → Option MI} {k : Nat} {a b : Expr} {f1 f2 : Rho → R Opd} {pos : Pos} (hk : X.K = C.K) (hm : OpOk X k tab "__eq__" 2) (hr : Room k X.A) (tk : L2N.Takes X C.W) (ha : PE X a (tO C f1)) (hb : PE X b (tO C f2)) :
    PT X (.Compare a [.Eq] [b] pos) (tT C (sTest (sBin tab f1 f2))) := by
  refine ⟨fun pins s σ H Q I ⟨Z, F, ρ, S, h⟩ => ?_⟩
  have h0 : tE C (sBin tab f1 f2) σ H fun v H1 => ∃ k, v = .bl k ∧ Q k H1 := tG.step S h fun a ρ1 F1 H1 v l S1 r m1 => by
    obtain ⟨d, fr⟩ := a
    cases d with
    | bl b => exact ⟨b, rv_bl r, m1 F1 H1 b (Evl.Ex.refl F1) S1 rfl⟩
    | _ => exact m1.elim
  obtain ⟨Z', F', ρ', S', h'⟩ := h0
  have h1 : tO C f1 σ H (fun x H1 => tO C f2 σ H1 fun y H2 => ∃ F2 ρ2 o1 o2, SR C.K C.P Z' F2 σ ρ2 H2 ∧ relO C.K Z' F2 H2 σ ρ2 x o1 ∧ relO C.K Z' F2 H2 σ ρ2 y o2 ∧ At C (relE C.K) Z' F2 σ (fun v H1 => ∃ k, v = .bl k ∧ Q k H1) (optR ((((peek ρ2 o1).bind clsOf).bind fun c => ((peek ρ2 o2).bind clsOf).bind fun c' => if c' = c then tab c else none)) fun mi => sRun 2 mi.tl mi.ms mi.m [] [toAv o1, toAv o2] ρ2)) :=
    tG.step S' h' fun o1 ρ1 F1 H1 v l S1 r m1 => tG.step S1 m1 fun o2 ρ2 F2 H2 w l2 S2 r2 m2 => ⟨F2, ρ2, o1, o2, S2, relO_later l2 r, r2, m2⟩
  refine wpAny_isTrue_Compare1 (thn (ha.run pins s σ H _ I h1) fun v s1 ⟨x, H1, I1, r1, q1⟩ => thn (hb.run pins s1 σ H1 _ I1 q1) fun u s2 ⟨y, H2, I2, r2, F2, ρ2, o1, o2, S2, w1, w2, m⟩ =>
    thn (eqO_at hk hm hr tk I2 r1 r2 S2 w1 w2 m) fun c s3 ⟨z, H3, I3, r3, k, e, q3⟩ => ?_) (nomark b)
  subst e
  cases r3
  exact wpAny_truthy_bool ⟨H3, I3, q3⟩
/-! ## len of an object -/
def smallI : D × Bool → Option Int
  | (.int n, false) => if 0 ≤ n ∧ n < 2 ^ 62 then some n else none
  | _ => none
def sLenO (tab : Str → Option MI) (f : Rho → R Opd) (ρ : Rho) : R (D × Bool) := (f ρ).bind fun o ρ1 => optR (((peek ρ1 o).bind clsOf).bind tab) fun mi => (sRun 1 mi.tl mi.ms mi.m [] [toAv o] ρ1).bind fun a ρ2 => optR (smallI a) fun n => .ok (.int n, false) ρ2
theorem run_fvA {pins : List (Addr × Obj)} {s : Shared} {Q : VK} {us : List Value} {vs : List V} {as : List Av} {k : Nat} {f : Addr} {n : Nat} {tl : List (Nat ⊕ D)} {ms : List Bool} {m : Mir} {A : Around} (hk : X.K = C.K) (G : FnV X.prog X.w X.K X.mg X.base k f n [] tl ms m) (sb : Sub X k A) (tk : L2N.Takes X C.W)
    (I : Inv X pins σ H s) (S : SR C.K C.P Z F σ ρ H) (r : Vals vs us) (ra : Avs C.K Z F H σ ρ vs as) (h : At C (relE C.K) Z F σ Q (sRun n tl ms m [] as ρ)) :
    wpAny (model X.prog X.w) A (call (.ref f) us) (EP X pins σ Q) X.xe s := by
  obtain ⟨fd, ps, tv, G, hb, ht⟩ := G.ex
  unfold sRun at h
  by_cases hn : as.length = n
  · rw [if_pos hn] at h
    cases e : tailD [] tl with
    | none => rw [e] at h; exact h.elim
    | some ts =>
      rw [e] at h
      rw [hk] at ht
      have h2 : spM X.K ms m (vs ++ tailV [] tv) H Q (fun cls d H' => C.W cls d σ H') := by
        rw [hk]
        exact call_ok S (ra.more (tail_rels .nil ht e)) h
      obtain ⟨ts', rt, hbt⟩ := hb.to s us [] [] I.kIn (r.length.symm.trans (ra.len.trans hn)) rfl .nil
      have e0 : Env0 X.prog X.w X.K X.mg X.base A X.stack s H := by
        have e := I.env0
        exact ⟨by rw [sb.fr]; exact e.frames, e.mod, e.bs, e.bsz, e.funs, e.frf, e.hok, e.bare⟩
      refine wpAny_call (codeAny_mono (G.run A X.stack s H ⟨us, []⟩ (us ++ ts') (vs ++ tailV [] tv) Q _ sb.room e0 hbt (r.append rt) h2) fun r s' hq => ?_)
      cases r with
      | error e => exact L2N.passAt tk σ pins H s e s' I hq
      | ok fl =>
        cases fl with
        | ret u => exact I.after hq
        | next => exact False.elim hq
        | brk => exact False.elim hq
        | cont => exact False.elim hq
  · rw [if_neg hn] at h; exact h.elim
theorem de_lenO {tab : Str → Option MI} {k : Nat} {a : Expr} {f : Rho → R Opd} {p pos : Pos} (hk : X.K = C.K) (hm : OpOk X k tab "__len__" 1) (hr : Room (k + 1) X.A) (tk : L2N.Takes X C.W) (hg : Gl X "len") (hmg : X.mg "len" = none) (hv : bootBuiltins "len" = some (.builtin "len")) (ha : PE X a (tO C f))
    (he : starEach [a] X.env = (false, eval a X.env) :: starEach [] X.env := by rfl) (hpl : (backTo pos (starEach [] X.env)).any (·.1) = false := by rfl) : PE X (.Call (.Name "len" p) [a] [] pos) (tE C (sLenO tab f)) := by
  refine ⟨fun pins s σ H Q I ⟨Z, F, ρ, S, h⟩ => ?_⟩
  have h1 : tCons (tO C f) tNil σ H (fun vs H1 => ∃ v F1 ρ1 o, vs = [v] ∧ SR C.K C.P Z F1 σ ρ1 H1 ∧ relO C.K Z F1 H1 σ ρ1 v o ∧ At C (relE C.K) Z F1 σ Q (optR (((peek ρ1 o).bind clsOf).bind tab) fun mi => (sRun 1 mi.tl mi.ms mi.m [] [toAv o] ρ1).bind fun a ρ2 => optR (smallI a) fun n => .ok (.int n, false) ρ2)) :=
    tG.step S h fun o ρ1 F1 H1 v l S1 r m1 => ⟨v, F1, ρ1, o, rfl, S1, r, m1⟩
  refine wpAny_Call_Name_kw (ld_blt I hg hmg hv ?_ (by decide) (by decide))
  refine PyProof.Rows.callWith_builtin1 (thn ((pa_cons ha pa_nil he).run pos pins s σ H _ I h1) fun us s1 ⟨vs, H1, I1, rv, v, F1, ρ1, o, ev, S1, r1, m⟩ => ?_) he hpl
  subst ev
  obtain ⟨mi, e, m⟩ := at_opt m
  obtain ⟨c, e1, e3⟩ := Option.bind_eq_some_iff.mp e
  obtain ⟨q, dq, vq, rfl, hq⟩ := peek_ins S1 r1 e1
  obtain ⟨M, G⟩ := hm c mi e3
  cases rv with
  | cons r0 rr =>
    cases rr
    cases r0
    rw [← hk] at hq
    obtain ⟨mA, J, _⟩ := ins_get I1.hok hq
    obtain ⟨od, J, _⟩ := J.look
    obtain ⟨m', hF⟩ := I1.fr
    refine PySem.W.len_K hF I1.ok.mod.kin J M.fi M.fn ?_
    have hsb : Sub X k X.A.in1 := Sub.in1 (X := X) (n := k) ⟨hr, rfl⟩
    have hm2 : At C (relE C.K) Z F1 σ (fun v H' => ∃ n : Int, v = .int n ∧ 0 ≤ n ∧ n < 2 ^ 62 ∧ Q v H') (sRun 1 mi.tl mi.ms mi.m [] [toAv o] ρ1) := by
      cases hx : sRun 1 mi.tl mi.ms mi.m [] [toAv o] ρ1 with
      | ok a ρ2 =>
        rw [hx] at m
        intro F' H' v' l S' r'
        have m3' : At C (relE C.K) Z F1 σ Q (optR (smallI a) fun n => .ok (.int n, false) ρ2) := m
        obtain ⟨n, en, m3⟩ := at_opt m3'
        obtain ⟨d, fr⟩ := a
        cases d with
        | int i =>
          cases fr with
          | true => cases en
          | false =>
            have en' : (if 0 ≤ i ∧ i < 2 ^ 62 then some i else none) = some n := en
            split at en'
            · rename_i hb
              cases en'
              have ev := rv_int r'
              subst ev
              exact ⟨n, rfl, hb.1, hb.2, m3 F' H' _ l S' (.int n)⟩
            · cases en'
        | _ => cases en
      | exc c fs ρ2 => rw [hx] at m; exact m
      | err => rw [hx] at m; exact m
    refine wpAny_mono (run_fvA hk G hsb tk I1 S1 (us := [.ref q]) (vs := [.ref q]) (.cons rfl .nil) (avs_cons (Evl.Ex.refl F1) r1 .nil) hm2) (fun v s' hv => ?_) fun _ _ x => x
    obtain ⟨x, H', I', rx, n, ex, h0, h2, hq⟩ := hv
    subst ex
    obtain ⟨t, rfl⟩ := rx
    exact ⟨⟨h0, by omega⟩, .int n, H', I'.tok _, ⟨_, rfl⟩, hq⟩
/-! ## list(range(a, b)) -/
def gRgL (i j : Int) : Option (D × Bool) := if rOk i = true ∧ rOk j = true ∧ (j - i).toNat ≤ 2 ^ 24 then some (.lst (intsD i (j - i).toNat), true) else none
def sRgL (f1 f2 : Rho → R (D × Bool)) (ρ : Rho) : R (D × Bool) := (f1 ρ).bind fun a ρ1 => (f2 ρ1).bind fun b ρ2 => R.of ((asI a.1).bind fun i => (asI b.1).bind fun j => gRgL i j) ρ2
theorem rels_rg {K : PySem.W.Frag} (i : Int) : ∀ n : Nat, Rels K F ((List.range n).map fun k => V.int (i + (k : Nat))) (intsD i n) := fun n => by
  unfold intsD
  generalize List.range n = xs
  induction xs with
  | nil => exact .nil
  | cons x r ih => exact .cons (.int _) ih
theorem de_rgL {a b : Expr} {f1 f2 : Rho → R (D × Bool)} {p p2 pos pos2 : Pos} (hc : X.calm = true) (hl : Gl X "list") (hlm : X.mg "list" = none) (hg : Gl X "range") (hm : X.mg "range" = none) (ha : PE X a (tE C f1)) (hb : PE X b (tE C f2))
    (na : starEach [a, b] X.env = (false, eval a X.env) :: starEach [b] X.env := by rfl) (nb : starEach [b] X.env = (false, eval b X.env) :: starEach [] X.env := by rfl) (hp : (backTo pos2 (starEach [b] X.env)).any (·.1) = false := by rfl)
    (nc : starEach [.Call (.Name "range" p2) [a, b] [] pos2] X.env = (false, eval (.Call (.Name "range" p2) [a, b] [] pos2) X.env) :: starEach [] X.env := by rfl) :
    PE X (.Call (.Name "list" p) [.Call (.Name "range" p2) [a, b] [] pos2] [] pos) (tE C (sRgL f1 f2)) :=
  PE.imp (pe_listRg hc hl hlm (prg_2 hg hm ha hb na nb hp) nc) fun σ H Q ⟨Z, F, ρ, S, m⟩ => tG.step S m fun x ρ1 F1 H1 v l S1 r m1 => tG.step S1 m1 fun y ρ2 F2 H2 w l2 S2 r2 m2 => by
    obtain ⟨dx, fx⟩ := x
    obtain ⟨dy, fy⟩ := y
    cases dx with
    | int i =>
      cases dy with
      | int j =>
        have m3 : At C (relE C.K) Z F2 σ Q (R.of (gRgL i j) ρ2) := m2
        unfold gRgL at m3
        split at m3
        · rename_i hh
          obtain ⟨h1, h2, h3⟩ := hh
          obtain ⟨b1, b2⟩ := rOk_iff h1
          obtain ⟨b3, b4⟩ := rOk_iff h2
          refine ⟨i, j, rv_int r, rv_int r2, ⟨b1, b2, b3, b4, h3⟩, fun q nq => ?_⟩
          have nf : F2 q = none := Evl.fresh_back S2.fh nq
          refine m3 F2 _ _ (Evl.Ex.refl F2) (S2.grow (Grow.fresh S2.fh nq)) ⟨q, rfl, ⟨nf, Evl.fresh_back S2.zh nq, _, upd_same, rels_rg i _⟩, fun k e kk hk hne hq => ?_⟩
          obtain ⟨v', hv', w'⟩ := S2.sl k e kk hk
          rw [hq] at hv'
          cases hv'
          cases kk with
          | sh => exact hne rfl
          | ow => obtain ⟨a', r', w'⟩ := w'; cases r'; obtain ⟨o', ho'⟩ := w'.obj_at; rw [nq] at ho'; cases ho'
          | pin => obtain ⟨a', r', w'⟩ := w'; cases r'; obtain ⟨o', ho'⟩ := w'.obj_at; rw [nq] at ho'; cases ho'
        · exact m3.elim
      | _ => exact m2.elim
    | _ => exact m2.elim
end
section
variable {ρ : Rho} {QE : R (D × Bool) → Prop}
@[simp ↓] theorem w_bin {tab : Str → Option MI} {f1 f2 : Rho → R Opd} : wpR (sBin tab f1 f2 ρ) QE = wpR (f1 ρ) (ThR (fun o1 ρ1 => (f2 ρ1).bind fun o2 ρ2 => optR ((((peek ρ2 o1).bind clsOf).bind fun c => ((peek ρ2 o2).bind clsOf).bind fun c' => if c' = c then tab c else none)) fun mi => sRun 2 mi.tl mi.ms mi.m [] [toAv o1, toAv o2] ρ2) QE) := wp_bind
@[simp ↓] theorem w_lenO {tab : Str → Option MI} {f : Rho → R Opd} : wpR (sLenO tab f ρ) QE = wpR (f ρ) (ThR (fun o ρ1 => optR (((peek ρ1 o).bind clsOf).bind tab) fun mi => (sRun 1 mi.tl mi.ms mi.m [] [toAv o] ρ1).bind fun a ρ2 => optR (smallI a) fun n => .ok (.int n, false) ρ2) QE) := wp_bind
@[simp ↓] theorem w_rgL {f1 f2 : Rho → R (D × Bool)} : wpR (sRgL f1 f2 ρ) QE = wpR (f1 ρ) (ThR (fun a ρ1 => (f2 ρ1).bind fun b ρ2 => R.of ((asI a.1).bind fun i => (asI b.1).bind fun j => gRgL i j) ρ2) QE) := wp_bind
@[simp] theorem clsOf_o {c : Str} {fs : List (Str × D)} : clsOf (.obj c fs) = some c := rfl
theorem smallI_n {n : Nat} (h : n < 1000000) : smallI (.int (n : Int), false) = some (n : Int) := by simp only [smallI]; rw [if_pos ⟨by omega, by omega⟩]
theorem gRgL_ok {i j : Int} (h1 : -1000000 ≤ i) (h2 : i ≤ 1000000) (h3 : -1000000 ≤ j) (h4 : j ≤ 1000000) : gRgL i j = some (.lst (intsD i (j - i).toNat), true) := by
  unfold gRgL
  rw [if_pos ⟨rOk_small h1 h2, rOk_small h3 h4, by omega⟩]
end
end Nu
namespace Nu
open PySem PySem.Spec PyProof.Rows L2
/-! ## data equal to itself -/
mutual
/-- plain data, at most n deep -/
def dataB : Nat → D → Bool
  | _, .non => true
  | _, .bl _ => true
  | _, .int _ => true
  | _, .str _ => true
  | 0, .tup _ => false
  | 0, .lst _ => false
  | n + 1, .tup ds => datasB n ds
  | n + 1, .lst ds => datasB n ds
  | _, _ => false
def datasB : Nat → List D → Bool
  | _, [] => true
  | n, d :: ds => dataB n d && datasB n ds
end
mutual
theorem data_py : ∀ (n : Nat) (d : D), dataB n d = true → ∃ p, toPy d = some p ∧ p.canLay0 = true ∧ p.depth ≤ n
  | n, .non, _ => ⟨.none, by simp [toPy], by simp [PyData.canLay0], by simp [PyData.depth]⟩
  | n, .bl b, _ => ⟨.bool b, by simp [toPy], by simp [PyData.canLay0], by simp [PyData.depth]⟩
  | n, .int b, _ => ⟨.int b, by simp [toPy], by simp [PyData.canLay0], by simp [PyData.depth]⟩
  | n, .str b, _ => ⟨.str (toStr b), by simp [toPy], by simp [PyData.canLay0, strOk_toStr], by simp [PyData.depth]⟩
  | 0, .tup _, h => by simp [dataB] at h
  | 0, .lst _, h => by simp [dataB] at h
  | n + 1, .tup ds, h => by
    obtain ⟨ps, e, h1, h2⟩ := datas_py n ds (by simpa [dataB] using h)
    exact ⟨.tuple ps, by simp [toPy, e], by simp [PyData.canLay0, h1], by simp [PyData.depth]; exact h2⟩
  | n + 1, .lst ds, h => by
    obtain ⟨ps, e, h1, h2⟩ := datas_py n ds (by simpa [dataB] using h)
    exact ⟨.list ps, by simp [toPy, e], by simp [PyData.canLay0, h1], by simp [PyData.depth]; exact h2⟩
  | n, .ty _, h => by simp [dataB] at h
  | n, .obj _ _, h => by simp [dataB] at h
  | n, .scr _, h => by simp [dataB] at h
theorem datas_py : ∀ (n : Nat) (ds : List D), datasB n ds = true → ∃ ps, toPys ds = some ps ∧ PyData.canLayAll0 ps = true ∧ PyData.depthAll ps ≤ n
  | n, [], _ => ⟨[], by simp [toPys], by simp [PyData.canLayAll0], by simp [PyData.depthAll]⟩
  | n, d :: ds, h => by
    have h' : dataB n d = true ∧ datasB n ds = true := by simpa [datasB] using h
    obtain ⟨p, e, h1, h2⟩ := data_py n d h'.1
    obtain ⟨ps, e', h3, h4⟩ := datas_py n ds h'.2
    exact ⟨p :: ps, by simp [toPys, e, e'], by simp [PyData.canLayAll0, h1, h3], by simp [PyData.depthAll]; omega⟩
end
theorem pyOf_data {n : Nat} {d : D} (h : dataB n d = true) (hn : n ≤ 60) : ∃ p, pyOf d = some p ∧ PyData.eqv p p = true := by
  obtain ⟨p, e, h1, h2⟩ := data_py n d h
  have hs : SeqAt.shaped p = true := by
    unfold SeqAt.shaped
    rw [h1, decide_eq_true (by omega)]
    rfl
  exact ⟨p, by simp [pyOf, e, hs], SeqAt.eqv_refl p h1⟩
theorem gEq_self {d : D} (n : Nat) (h : dataB n d = true) (hn : n ≤ 60 := by decide) : gEq d d = some (.bl true, false) := by
  obtain ⟨p, e, h1⟩ := pyOf_data h hn
  simp [gEq, e, h1]
theorem gNe_self {d : D} (n : Nat) (h : dataB n d = true) (hn : n ≤ 60 := by decide) : gNe d d = some (.bl false, false) := by
  obtain ⟨p, e, h1⟩ := pyOf_data h hn
  simp [gNe, e, h1]
theorem datasB_all {n : Nat} : ∀ {ds : List D}, (∀ d ∈ ds, dataB n d = true) → datasB n ds = true
  | [], _ => by simp [datasB]
  | d :: ds, h => by
    rw [datasB, h d (by simp), datasB_all fun x hx => h x (by simp [hx])]
    rfl
theorem dataB_tup {n : Nat} {ds : List D} (h : ∀ d ∈ ds, dataB n d = true) : dataB (n + 1) (.tup ds) = true := by
  rw [dataB]; exact datasB_all h
theorem dataB_lst {n : Nat} {ds : List D} (h : ∀ d ∈ ds, dataB n d = true) : dataB (n + 1) (.lst ds) = true := by
  rw [dataB]; exact datasB_all h
mutual
theorem dataB_mono : ∀ (n : Nat) (d : D) (m : Nat), n ≤ m → dataB n d = true → dataB m d = true
  | n, .non, m, _, _ => by simp [dataB]
  | n, .bl b, m, _, _ => by simp [dataB]
  | n, .int b, m, _, _ => by simp [dataB]
  | n, .str b, m, _, _ => by simp [dataB]
  | 0, .tup _, m, _, h => by simp [dataB] at h
  | 0, .lst _, m, _, h => by simp [dataB] at h
  | n + 1, .tup ds, m, hm, h => by
    obtain ⟨k, rfl⟩ : ∃ k, m = k + 1 := ⟨m - 1, by omega⟩
    rw [dataB] at h ⊢
    exact datasB_mono n ds k (by omega) h
  | n + 1, .lst ds, m, hm, h => by
    obtain ⟨k, rfl⟩ : ∃ k, m = k + 1 := ⟨m - 1, by omega⟩
    rw [dataB] at h ⊢
    exact datasB_mono n ds k (by omega) h
  | n, .ty _, m, _, h => by simp [dataB] at h
  | n, .obj _ _, m, _, h => by simp [dataB] at h
  | n, .scr _, m, _, h => by simp [dataB] at h
theorem datasB_mono : ∀ (n : Nat) (ds : List D) (m : Nat), n ≤ m → datasB n ds = true → datasB m ds = true
  | n, [], m, _, _ => by simp [datasB]
  | n, d :: ds, m, hm, h => by
    have h' : dataB n d = true ∧ datasB n ds = true := by simpa [datasB] using h
    rw [datasB, dataB_mono n d m hm h'.1, datasB_mono n ds m hm h'.2]
    rfl
end
end Nu
namespace Nu
open PySem PySem.Spec PyProof.Rows L2
/-! ## x[::-1] -/
theorem str_indices (n : Nat) : Builtin.Str.strSliceIndices none none (-1) n = (List.range n).map fun k => n - 1 - k := by
  have := PySem.W.krv_sliceRange n
  unfold Builtin.Str.strSliceIndices
  exact this
section
variable {X : Cx}
def tRevS (te : TE) : TE := fun σ H Q => te σ H fun x H1 => ∃ z : Str, x = .str z ∧ z.length ≤ sizeLine ∧ Q (.str ⟨z.cps.toList.reverse.toArray⟩) H1
theorem pe_revS {e : Expr} {te : TE} {k : Nat} {p1 p2 p3 pos : Pos} (he : PE X e te) : PE X (.Subscript e (.Slice none none (some (.UnaryOp .USub (.Constant (.int 1) k p1) p2)) p3) pos) (tRevS te) := by
  refine ⟨fun pins s σ H Q I h => ?_⟩
  refine Subscript_ (thn (he.run pins s σ H _ I h) fun v s1 ⟨x, H1, I1, r1, q1⟩ => ?_)
  obtain ⟨z, ex, hz, q⟩ := q1
  subst ex
  obtain ⟨t, rfl⟩ := r1
  have hst : PO X (some (.UnaryOp .USub (.Constant (.int 1) k p1) p2)) (tPart (tUn (rU fun i => .int (-i)) (tC (.int 1)))) := po_some (pe_un un_neg pe_int)
  refine wpAny_Slice (thn (po_none.run pins s1 σ H1 (fun o H2 => o = none ∧ H2 = H1) I1 ⟨rfl, rfl⟩) fun vl s2 ⟨l, H2, I2, pl, el, e2⟩ => ?_)
  subst el e2
  refine thn (po_none.run pins s2 σ H2 (fun o H3 => o = none ∧ H3 = H2) I2 ⟨rfl, rfl⟩) fun vu s3 ⟨u, H3, I3, pu, eu, e3⟩ => ?_
  subst eu e3
  refine thn (hst.run pins s3 σ H3 (fun o H4 => o = some (-1) ∧ H4 = H3) I3 ⟨1, rfl, -1, rfl, rfl, rfl⟩) fun vs s4 ⟨o, H4, I4, ps, eo, e4⟩ => ?_
  subst eo e4
  have I5 : Inv X pins σ H4 { s4 with heap := s4.heap.push { cls := .type "slice", data := .fields #[vl, vu, vs] } } := I4.kept (t' := s4.toks) fun b ob q => Heap.get?_push_of_some _ q
  show wpAny (model X.prog X.w) X.A (subscriptTail e (.Slice none none (some (.UnaryOp .USub (.Constant (.int 1) k p1) p2)) p3) (.str z t) (.ref s4.heap.objs.size)) (EP X pins σ Q) X.xe { s4 with heap := s4.heap.push { cls := .type "slice", data := .fields #[vl, vu, vs] } }
  obtain ⟨l, rfl, e1⟩ := IsPart.raw pl
  obtain ⟨u, rfl, e2⟩ := IsPart.raw pu
  obtain ⟨st, rfl, e3⟩ := IsPart.raw ps
  have hl0 : l = none := by cases l with
    | none => rfl
    | some _ => cases e1
  have hu0 : u = none := by cases u with
    | none => rfl
    | some _ => cases e2
  obtain ⟨tk, rfl⟩ : ∃ tk, st = some (-1, tk) := by
    cases st with
    | none => cases e3
    | some p => obtain ⟨a, b⟩ := p; simp at e3; subst e3; exact ⟨b, rfl⟩
  subst hl0 hu0
  refine tail_any (ops := [.str z t, .ref s4.heap.objs.size]) (typeIs_str _ z t) (PySem.F.slot_str_getitem.lookup) ?_ (by with_unfolding_all rfl)
  refine wpAny_getItem_str_slice (l := none) (u := none) (st := some (-1, tk)) ⟨_, Heap.get?_push_size _ rfl, rfl, rfl⟩ rfl ?_
  have hp : slicePicked z none none (some (-1, tk)) = (List.range z.length).map fun k => z.length - 1 - k := str_indices z.length
  have hr : ((slicePicked z none none (some (-1, tk))).filterMap (z.cps[·]?)) = z.cps.toList.reverse := by
    rw [hp]
    have := PySem.W.krv_range z.length
    rw [this, List.filterMap_reverse]
    congr 1
    exact PySem.W.krv_all z.cps
  unfold sliceMade
  rw [if_neg (by simp)]
  rw [hr]
  refine ⟨?_, .str _, H4, I5.tok _, ⟨_, rfl⟩, q⟩
  show (z.cps.toList.reverse.toArray).size ≤ sizeLine
  have hz' : z.cps.size ≤ sizeLine := hz
  simpa using hz'
end
section
variable {prog : Program} {w : World} {A : Around} {E : Value → Shared → Prop} {s : Shared}
theorem sliceApplied_rev {sl : Addr} {vl vu vs : Value} {n : Nat} {Q : Int × Int × Nat → Shared → Prop} (hs : s.heap.IsSliceOf sl vl vu vs) (pl : IsPart vl none) (pu : IsPart vu none) (ps : IsPart vs (some (-1)))
    (h : Q ((n : Int) - 1, -1, n) s) : wpAny (model prog w) A (Builtin.Slice.sliceApplied (.ref sl) (pure (n : Int))) Q E s := by
  obtain ⟨os, hos, hcs, hds⟩ := id hs
  unfold Builtin.Slice.sliceApplied Builtin.Slice.sliceFields
  refine wpAny_bind (wpAny_bind (wpAny_field hos hds (x := vl) rfl (wpAny_bind (wpAny_field hos hds (x := vu) rfl (wpAny_bind (wpAny_field hos hds (x := vs) rfl (wpAny_pure ?_)))))))
  refine wpAny_bind (HT.slicePart_ ps ?_)
  show wpAny _ _ (if ((-1 : Int) == 0) = true then _ else _) _ _ s
  rw [if_neg (by decide)]
  refine wpAny_bind (HT.slicePart_ pl (wpAny_bind (HT.slicePart_ pu (wpAny_bind (wpAny_pure ?_)))))
  show wpAny _ _ (match Builtin.Slice.sliceAdjust none none (-1) (n : Int) with | (lo, hi) => pure (lo, (-1 : Int), Builtin.Slice.slicePlaces lo hi (-1))) _ _ s
  have e1 : Builtin.Slice.sliceAdjust none none (-1) (n : Int) = ((n : Int) - 1, -1) := by simp [Builtin.Slice.sliceAdjust]
  rw [e1]
  show wpAny _ _ (pure ((n : Int) - 1, (-1 : Int), Builtin.Slice.slicePlaces ((n : Int) - 1) (-1) (-1))) _ _ s
  have e2 : Builtin.Slice.slicePlaces ((n : Int) - 1) (-1) (-1) = n := by
    unfold Builtin.Slice.slicePlaces
    rw [if_neg (by decide)]
    by_cases hn : 0 < n
    · rw [if_pos (by omega)]
      simp
    · rw [if_neg (by omega)]
      omega
  rw [e2]
  exact wpAny_pure h
theorem pick_rev (xs : Array Value) : ((List.range xs.size).filterMap fun (m : Nat) => xs[(((xs.size : Nat) : Int) - 1 + (m : Int) * -1).toNat]?).toArray = xs.toList.reverse.toArray := by
  congr 1
  have e : (fun (m : Nat) => xs[(((xs.size : Nat) : Int) - 1 + (m : Int) * -1).toNat]?) = (fun k : Nat => xs[k]?) ∘ fun m : Nat => (((xs.size : Nat) : Int) - 1 + (m : Int) * -1).toNat := rfl
  rw [e, ← List.filterMap_map]
  have e2 : (List.range xs.size).map (fun m : Nat => (((xs.size : Nat) : Int) - 1 + (m : Int) * -1).toNat) = (List.range xs.size).map fun k => xs.size - 1 - k := by
    apply List.map_congr_left
    intro m _
    omega
  rw [e2, PySem.W.krv_range, List.filterMap_reverse]
  congr 1
  exact PySem.W.krv_all xs
theorem getItem_tuple_rev {t sl : Addr} {items : Array Value} {vl vu vs : Value} {Q : Value → Shared → Prop} (ht : IsTup s.heap t items) (hs : s.heap.IsSliceOf sl vl vu vs) (pl : IsPart vl none) (pu : IsPart vu none) (ps : IsPart vs (some (-1)))
    (h : Q (.ref s.heap.objs.size) { s with heap := s.heap.push { cls := .type "tuple", data := .seq items.toList.reverse.toArray } })
    (hsz : items.size ≤ sizeLine) : wpAny (model prog w) A (getItem (.ref t) (.ref sl)) Q E s := by
  have htake : sizeOk (.seq items.toList.reverse.toArray) := by
    show items.toList.reverse.toArray.size ≤ sizeLine
    simpa using hsz
  obtain ⟨os, hos, hcs, hds⟩ := id hs
  have hTs : s.TypeIs (.ref sl) "slice" := ⟨os, hos, hcs⟩
  unfold getItem
  try with_reducible refine wpAny_holding ?_
  first | refine wpAny_bind (wpAny_pure ?_) | skip
  refine wpAny_bind (wpAny_sequenceKey ht.typeIs (by decide) ?_)
  refine wpAny_bind (wpAny_callSpecial?_slot (name := Str.ofString "__getitem__") ht.typeIs PyProof.Rows.slot_tuple_getitem
    (wpAny_call_entry PyProof.Rows.slot_tuple_getitem ht.typeIs PyProof.Rows.entry_tuple_getitem ?_ (PyProof.Rows.args_tuple_getitem _ _)))
  show wpAny _ _ (Builtin.Tuple.tupleItemsOf (.ref t) >>= _) _ _ s
  refine wpAny_bind (PyProof.Rows.tupleItemsOf_ ht ?_)
  refine wpAny_bind (wpAny_typeOf hTs ?_)
  rw [if_pos (by decide)]
  refine wpAny_bind (sliceApplied_rev hs pl pu ps ?_)
  have hno : ¬ ((((items.size : Nat) : Int) - 1 == 0 && (-1 : Int) == 1 && items.size == items.size) = true) := by simp
  show wpAny _ _ (if (((items.size : Nat) : Int) - 1 == 0 && (-1 : Int) == 1 && items.size == items.size) = true then _ else _) _ _ s
  rw [if_neg hno, pick_rev]
  first
    | exact wpAny_bind (m := Builtin.Tuple.tupleExact _) (wpAny_newObj_type (wpAny_pure ⟨_, rfl, wpAny_pure h⟩) htake)
    | exact wpAny_bind (m := Builtin.Tuple.tupleExact _) (wpAny_newObj_type (wpAny_bind (wpAny_pure (wpAny_pure ⟨_, rfl, wpAny_pure h⟩))) htake)
end
section
variable {X : Cx}
def tRevT (K : PySem.W.Frag) (te : TE) : TE := fun σ H Q => te σ H fun x H1 => ∃ a xs, x = .ref a ∧ SqT K H1 a xs ∧ ∀ p, H1 p = none → Q (.ref p) (upd H1 p (.tup xs.reverse))
theorem pe_revT {e : Expr} {te : TE} {k : Nat} {p1 p2 p3 pos : Pos} (he : PE X e te) : PE X (.Subscript e (.Slice none none (some (.UnaryOp .USub (.Constant (.int 1) k p1) p2)) p3) pos) (tRevT X.K te) := by
  refine ⟨fun pins s σ H Q I h => ?_⟩
  refine Subscript_ (thn (he.run pins s σ H _ I h) fun v s1 ⟨x, H1, I1, r1, q1⟩ => ?_)
  obtain ⟨a, xs, ex, hx, q⟩ := q1
  subst ex
  cases r1
  have hst : PO X (some (.UnaryOp .USub (.Constant (.int 1) k p1) p2)) (tPart (tUn (rU fun i => .int (-i)) (tC (.int 1)))) := po_some (pe_un un_neg pe_int)
  refine wpAny_Slice (thn (po_none.run pins s1 σ H1 (fun o H2 => o = none ∧ H2 = H1) I1 ⟨rfl, rfl⟩) fun vl s2 ⟨l, H2, I2, pl, el, e2⟩ => ?_)
  subst el e2
  refine thn (po_none.run pins s2 σ H2 (fun o H3 => o = none ∧ H3 = H2) I2 ⟨rfl, rfl⟩) fun vu s3 ⟨u, H3, I3, pu, eu, e3⟩ => ?_
  subst eu e3
  refine thn (hst.run pins s3 σ H3 (fun o H4 => o = some (-1) ∧ H4 = H3) I3 ⟨1, rfl, -1, rfl, rfl, rfl⟩) fun vs s4 ⟨o, H4, I4, ps, eo, e4⟩ => ?_
  subst eo e4
  have I5 : Inv X pins σ H4 { s4 with heap := s4.heap.push { cls := .type "slice", data := .fields #[vl, vu, vs] } } := I4.kept (t' := s4.toks) fun b ob q => Heap.get?_push_of_some _ q
  obtain ⟨its, r, ht, hz⟩ := I5.tuple hx
  show wpAny (model X.prog X.w) X.A (subscriptTail e (.Slice none none (some (.UnaryOp .USub (.Constant (.int 1) k p1) p2)) p3) (.ref a) (.ref s4.heap.objs.size)) (EP X pins σ Q) X.xe { s4 with heap := s4.heap.push { cls := .type "slice", data := .fields #[vl, vu, vs] } }
  refine tail_any (ops := [.ref a, .ref s4.heap.objs.size]) ht.typeIs (PyProof.Rows.slot_tuple_getitem.lookup) ?_ (by with_unfolding_all rfl)
  refine getItem_tuple_rev ht (Heap.IsSliceOf.new _ vl vu vs) pl pu ps ?_ (by rw [List.size_toArray, ← r.length]; exact hz)
  refine ⟨.ref _, _, I5.laid (t' := s4.toks) (o := .tup xs.reverse) (fun b ob q => Heap.get?_push_of_some _ q) (Nat.le_refl _) ?_, rfl, q _ (I5.hok.fresh (Nat.le_refl _))⟩
  exact ⟨by rw [List.length_reverse]; exact hz, _, r.reverse, IsTup.new _ _⟩
end
end Nu
namespace Nu
open PySem PySem.Spec PyProof.Rows L2
def gRev : D → Option (D × Bool)
  | .str z => if z.length ≤ sizeLine then some (.str z.reverse, false) else none
  | .lst ds => some (.lst ds.reverse, true)
  | .scr ds => some (.lst ds.reverse, true)
  | .tup ds => some (.tup ds.reverse, false)
  | _ => none
def sRev (f : Rho → R Opd) (ρ : Rho) : R (D × Bool) := (f ρ).bind fun o ρ1 => R.of ((peek ρ1 o).bind gRev) ρ1
section
variable {C : Cq} {Z Z' F F' H H' : Hp} {σ σ' : St} {ρ ρ' : Rho} {X : Cx}
theorem toStr_rev (z : List Cp) : (⟨(toStr z).cps.toList.reverse.toArray⟩ : Str) = toStr z.reverse := by
  unfold toStr
  simp
theorem de_rev {e : Expr} {f : Rho → R Opd} {k : Nat} {p1 p2 p3 pos : Pos} (hk : X.K = C.K) (h : PE X e (tO C f)) : PE X (.Subscript e (.Slice none none (some (.UnaryOp .USub (.Constant (.int 1) k p1) p2)) p3) pos) (tE C (sRev f)) := by
  refine ⟨fun pins s σ H Q I ⟨Z, F, ρ, S, m⟩ => ?_⟩
  cases hf : f ρ with
  | err => unfold sRev at m; rw [hf] at m; exact m.elim
  | exc c fs ρ1 =>
    refine (pe_revS h).run pins s σ H Q I ⟨Z, F, ρ, S, ?_⟩
    unfold sRev at m
    rw [hf] at m ⊢
    exact m
  | ok o ρ1 =>
    have m1 : At C (relE C.K) Z F σ Q (R.of ((peek ρ1 o).bind gRev) ρ1) := by
      unfold sRev at m
      rw [hf] at m
      exact m
    cases p : peek ρ1 o with
    | none => rw [p] at m1; exact m1.elim
    | some d =>
      rw [p] at m1
      cases d with
      | str z =>
        refine (pe_revS h).run pins s σ H Q I ⟨Z, F, ρ, S, ?_⟩
        rw [hf]
        intro F1 H1 v l S1 r
        have rl := (peek_rl S1 r p).str
        subst rl
        have m2 : At C (relE C.K) Z F σ Q (R.of (if z.length ≤ sizeLine then some (.str z.reverse, false) else none) ρ1) := m1
        by_cases hz : z.length ≤ sizeLine
        · rw [if_pos hz] at m2
          exact ⟨toStr z, rfl, by rw [toStr_length]; exact hz, by rw [toStr_rev]; exact m2 F1 H1 _ l S1 (.str _)⟩
        · rw [if_neg hz] at m2; exact m2.elim
      | lst ds =>
        refine (pe_revL h).run pins s σ H Q I ⟨Z, F, ρ, S, ?_⟩
        rw [hf]
        intro F1 H1 v l S1 r
        obtain ⟨a, vs, rfl, ha, rr⟩ := (peek_rl S1 r p).lst S1.fh
        refine ⟨a, vs, rfl, .inl (.inl ha), fun q nq => ?_⟩
        have m2 : At C (relE C.K) Z F1 σ Q (.ok (.lst ds.reverse, true) ρ1) := At.mono l m1
        exact grow_lst S1.fh nq rr.reverse fun F' H' v' g n => m2 F' H' v' g.ff (S1.grow g) (n.rv S1)
      | scr ds =>
        refine (pe_revL h).run pins s σ H Q I ⟨Z, F, ρ, S, ?_⟩
        rw [hf]
        intro F1 H1 v l S1 r
        obtain ⟨a, vs, rfl, ha, rr⟩ := (peek_rl S1 r p).scr S1.fh
        refine ⟨a, vs, rfl, by rw [hk]; exact ha, fun q nq => ?_⟩
        have m2 : At C (relE C.K) Z F1 σ Q (.ok (.lst ds.reverse, true) ρ1) := At.mono l m1
        exact grow_lst S1.fh nq rr.reverse fun F' H' v' g n => m2 F' H' v' g.ff (S1.grow g) (n.rv S1)
      | tup ds =>
        refine (pe_revT h).run pins s σ H Q I ⟨Z, F, ρ, S, ?_⟩
        rw [hf]
        intro F1 H1 v l S1 r
        obtain ⟨a, vs, rfl, ha, _, rr⟩ := (peek_rl S1 r p).tup S1.fh
        refine ⟨a, vs, rfl, by rw [hk]; exact ha, fun q nq => ?_⟩
        have m2 : At C (relE C.K) Z F1 σ Q (.ok (.tup ds.reverse, false) ρ1) := At.mono l m1
        exact grow_tup S1.fh nq rr.reverse fun F' H' v' g n => m2 F' H' v' g.ff (S1.grow g) (n.rv S1)
      | _ => exact m1.elim
end
@[simp ↓] theorem w_rev {f : Rho → R Opd} {ρ : Rho} {QE : R (D × Bool) → Prop} : wpR (sRev f ρ) QE = wpR (f ρ) (ThR (fun o ρ1 => R.of ((peek ρ1 o).bind gRev) ρ1) QE) := wp_bind
theorem gRev_s {z : List Cp} (h : z.length ≤ 100000) : gRev (.str z) = some (.str z.reverse, false) := by
  have : z.length ≤ sizeLine := by rw [size16]; omega
  simp [gRev, this]
@[simp] theorem gRev_t {ds : List D} : gRev (.tup ds) = some (.tup ds.reverse, false) := rfl
@[simp] theorem gRev_l {ds : List D} : gRev (.lst ds) = some (.lst ds.reverse, true) := rfl
end Nu
namespace PySem.W
open PySem PySem.Calls PyProof.Rows Builtin
section
variable {prog : Program} {w : World} {A : Around} {E : Value → Shared → Prop} {s : Shared} {K : Frag} {x C L f : Addr} {h₀ : Heap} {m : Str → Option Value} {ox : Obj} {od : Option Obj} {b : Value}
theorem nu_ne {Q : Value → Shared → Prop} (hu : A.units < cLine) (hu1 : A.in1.units < cLine) (X : K.In s.heap) (I : InstAt s.heap x ox C od) (hb : Looks (model prog w) s.heap (typeOf b) (.ref C))
    (hne : findIn K (.ref C) "__ne__" = some (some (.builtin "object.__ne__"))) (hs : findIn K (.ref C) "__eq__" = some (some (.ref f))) (hf : isFn K (.ref f) = true) (hm : mroIn K C (.type "object") = some true)
    (h : wpAny (model prog w) A.in1 (call (.ref f) [.ref x, b]) (fun v s' => ∃ k, v = .bool k ∧ Q (.bool !k) s') E s) : wpAny (model prog w) A (richCompare .NotEq (.ref x) b) Q E s := by
  have one : wpAny (model prog w) A (tryCompare (.ref x) (cmpInfo .NotEq).2.1 b) (fun r s' => ∃ v, r = some v ∧ Q v s') E s := by
    unfold tryCompare
    have sp : Looks (model prog w) s.heap (specialOf (.ref x) "__ne__") (some (.builtin "object.__ne__")) := I.type.andThen (looks_findIn X hne)
    refine wpAny_bind (NtL.csib (id := "object.__ne__") sp (F.cmp_object.ne.bind (.ref x)) ?_)
    have iv : Looks (model prog w) s.heap (isInstance (.ref x) (.type "object")) true := I.type.andThen (looks_mroIn X hm)
    refine wpAny_call (codeAny_call_builtin F.cmp_object.ne.plain F.cmpEntry_ne (@check_slot (model prog w) _ _ _ "object.__ne__" "object" "__ne__" (.ref x) [b] [] _ (by decide +kernel) (by decide +kernel) iv (F.cmpArgs_ne _ _) ?_))
    unfold Builtin.«object.__ne__»
    refine wpAny_bind (wpAny_of_eq (a := ((Value.ref x : Value), [b])) (by first | rfl | (simp only [slotArgs]; rfl)) ?_)
    refine wpAny_bind (wpAny_cRoomFor hu1 ?_)
    refine wpAny_bind (ifBound_K X I hs hf (wpAny_mono h (fun v s' hv => ?_) fun _ _ e => e))
    obtain ⟨k, rfl, hq⟩ := hv
    refine wpAny_bind (wpAny_truthy_bool ?_)
    refine wpAny_pure ?_
    exact wpAny_pure ⟨_, rfl, hq⟩
  unfold richCompare
  simp only [oneThing_ref]
  refine wpAny_holding (wpAny_bind (wpAny_cRoomFor hu ?_))
  refine wpAny_bind (I.type.here (wpAny_bind (hb.here ?_)))
  split
  · rename_i q
    simp at q
  · refine wpAny_bind (wpAny_pure ?_)
    simp only [Bool.false_eq_true, if_false]
    refine wpAny_bind (wpAny_mono one (fun r s' z => ?_) fun _ _ e => e)
    obtain ⟨v, rfl, hq⟩ := z
    exact wpAny_pure hq
end
end PySem.W
namespace Nu
open PySem PySem.Spec PyProof.Rows L2
section
variable {C : Cq} {Z Z' F F' H H' : Hp} {σ σ' : St} {ρ ρ' : Rho} {X : Cx}
/-! ## != of objects: object's own, by the class's == -/
structure NeMeth (K : PySem.W.Frag) (c : Str) : Prop where
  fi : PySem.W.findIn K (.ref (He.ga K c)) "__ne__" = some (some (.builtin "object.__ne__"))
  mo : PySem.W.mroIn K (He.ga K c) (.type "object") = some true
theorem fNe_ok {c : Str} {K : PySem.W.Frag} (h : fNe c K = true) : NeMeth K c := by
  unfold fNe at h
  obtain ⟨h1, h2⟩ := He.ba h
  exact ⟨of_decide_eq_true h1, of_decide_eq_true h2⟩
def NeOk (X : Cx) (tab : Str → Option MI) : Prop := ∀ c mi, tab c = some mi → NeMeth X.K c
def blNot : D × Bool → Option Bool
  | (.bl b, _) => some (!b)
  | _ => none
def sNeO (tab : Str → Option MI) (f1 f2 : Rho → R Opd) (ρ : Rho) : R (D × Bool) :=
  (f1 ρ).bind fun o1 ρ1 => (f2 ρ1).bind fun o2 ρ2 => optR ((((peek ρ2 o1).bind clsOf).bind fun c => ((peek ρ2 o2).bind clsOf).bind fun c' => if c' = c then tab c else none)) fun mi => (sRun 2 mi.tl mi.ms mi.m [] [toAv o1, toAv o2] ρ2).bind fun a ρ3 => optR (blNot a) fun b => .ok (.bl b, false) ρ3
theorem neO_at {tab : Str → Option MI} {k : Nat} {pins : List (Addr × Obj)} {s : Shared} {x y : V} {v u : Value} {o1 o2 : Opd} {Q : VK} (hk : X.K = C.K) (hm : OpOk X k tab "__eq__" 2) (hn : NeOk X tab) (hr : Room (k + 1) X.A) (tk : L2N.Takes X C.W) (I : Inv X pins σ H s) (rx : RelV x v) (ry : RelV y u) (S2 : SR C.K C.P Z F σ ρ H) (r1 : relO C.K Z F H σ ρ x o1) (r2 : relO C.K Z F H σ ρ y o2)
    (m : At C (relE C.K) Z F σ Q (optR ((((peek ρ o1).bind clsOf).bind fun c => ((peek ρ o2).bind clsOf).bind fun c' => if c' = c then tab c else none)) fun mi => (sRun 2 mi.tl mi.ms mi.m [] [toAv o1, toAv o2] ρ).bind fun a ρ3 => optR (blNot a) fun b => .ok (.bl b, false) ρ3)) : wpAny (model X.prog X.w) X.A (compareOp .NotEq v u) (EP X pins σ Q) X.xe s := by
  obtain ⟨mi, e, m⟩ := at_opt m
  obtain ⟨c, e1, e2, e3⟩ := cls2 e
  obtain ⟨p, dp, vp, rfl, hp⟩ := peek_ins S2 r1 e1
  obtain ⟨q, dq, vq, rfl, hq⟩ := peek_ins S2 r2 e2
  obtain ⟨M, G⟩ := hm c mi e3
  have N := hn c mi e3
  cases rx
  cases ry
  rw [← hk] at hp hq
  obtain ⟨mA, J, _⟩ := ins_get I.hok hp
  obtain ⟨mB, J', _⟩ := ins_get I.hok hq
  obtain ⟨od, J, _⟩ := J.look
  obtain ⟨od', J', _⟩ := J'.look
  obtain ⟨m', hF⟩ := I.fr
  have hsb : Sub X k X.A.in1 := Sub.in1 (X := X) (n := k) ⟨hr, rfl⟩
  have hm2 : At C (relE C.K) Z F σ (fun v H' => ∃ b : Bool, v = .bl b ∧ Q (.bl !b) H') (sRun 2 mi.tl mi.ms mi.m [] [toAv o1, toAv o2] ρ) := by
    cases hx : sRun 2 mi.tl mi.ms mi.m [] [toAv o1, toAv o2] ρ with
    | ok a ρ2 =>
      rw [hx] at m
      intro F' H' v' l S' r'
      have m3' : At C (relE C.K) Z F σ Q (optR (blNot a) fun n => .ok (.bl n, false) ρ2) := m
      obtain ⟨n, en, m3⟩ := at_opt m3'
      obtain ⟨d, fr⟩ := a
      cases d with
      | bl b =>
        have en' : some (!b) = some n := en
        cases en'
        have ev := rv_bl r'
        subst ev
        exact ⟨b, rfl, m3 F' H' _ l S' (.bl _)⟩
      | _ => cases en
    | exc c fs ρ2 => rw [hx] at m; exact m
    | err => rw [hx] at m; exact m
  refine PySem.W.nu_ne hr.units0 hsb.room.units0 I.kIn J J'.type N.fi M.fi M.fn N.mo ?_
  refine wpAny_mono (run_fvA hk G hsb tk I S2 (us := [.ref p, .ref q]) (vs := [.ref p, .ref q]) (.cons rfl (.cons rfl .nil)) (avs_two r1 r2) hm2) (fun v s' hv => ?_) fun _ _ x => x
  obtain ⟨x, H', I', rx, b, ex, hq⟩ := hv
  subst ex
  cases rx
  exact ⟨b, rfl, .bl !b, H', I', rfl, hq⟩
theorem de_neO {tab : Str → Option MI} {k : Nat} {a b : Expr} {f1 f2 : Rho → R Opd} {pos : Pos} (hk : X.K = C.K) (hm : OpOk X k tab "__eq__" 2) (hn : NeOk X tab) (hr : Room (k + 1) X.A) (tk : L2N.Takes X C.W) (ha : PE X a (tO C f1)) (hb : PE X b (tO C f2)) :
    PE X (.Compare a [.NotEq] [b] pos) (tE C (sNeO tab f1 f2)) := by
  refine ⟨fun pins s σ H Q I ⟨Z, F, ρ, S, h⟩ => ?_⟩
  have h1 : tO C f1 σ H (fun x H1 => tO C f2 σ H1 fun y H2 => ∃ F2 ρ2 o1 o2, SR C.K C.P Z F2 σ ρ2 H2 ∧ relO C.K Z F2 H2 σ ρ2 x o1 ∧ relO C.K Z F2 H2 σ ρ2 y o2 ∧ At C (relE C.K) Z F2 σ Q (optR ((((peek ρ2 o1).bind clsOf).bind fun c => ((peek ρ2 o2).bind clsOf).bind fun c' => if c' = c then tab c else none)) fun mi => (sRun 2 mi.tl mi.ms mi.m [] [toAv o1, toAv o2] ρ2).bind fun a ρ3 => optR (blNot a) fun b => .ok (.bl b, false) ρ3)) :=
    tG.step S h fun o1 ρ1 F1 H1 v l S1 r m1 => tG.step S1 m1 fun o2 ρ2 F2 H2 w l2 S2 r2 m2 => ⟨F2, ρ2, o1, o2, S2, relO_later l2 r, r2, m2⟩
  exact wpAny_Compare1 (binT ha hb I h1 fun v u s2 x y H2 I2 rx ry ⟨F2, ρ2, o1, o2, S2, r1, r2, m⟩ => neO_at hk hm hn hr tk I2 rx ry S2 r1 r2 m) (nomark b)
theorem dt_neO {tab : Str → Option MI} {k : Nat} {a b : Expr} {f1 f2 : Rho → R Opd} {pos : Pos} (hk : X.K = C.K) (hm : OpOk X k tab "__eq__" 2) (hn : NeOk X tab) (hr : Room (k + 1) X.A) (tk : L2N.Takes X C.W) (ha : PE X a (tO C f1)) (hb : PE X b (tO C f2)) :
    PT X (.Compare a [.NotEq] [b] pos) (tT C (sTest (sNeO tab f1 f2))) := by
  refine ⟨fun pins s σ H Q I ⟨Z, F, ρ, S, h⟩ => ?_⟩
  have h0 : tE C (sNeO tab f1 f2) σ H fun v H1 => ∃ k, v = .bl k ∧ Q k H1 := tG.step S h fun a ρ1 F1 H1 v l S1 r m1 => by
    obtain ⟨d, fr⟩ := a
    cases d with
    | bl b => exact ⟨b, rv_bl r, m1 F1 H1 b (Evl.Ex.refl F1) S1 rfl⟩
    | _ => exact m1.elim
  obtain ⟨Z', F', ρ', S', h'⟩ := h0
  have h1 : tO C f1 σ H (fun x H1 => tO C f2 σ H1 fun y H2 => ∃ F2 ρ2 o1 o2, SR C.K C.P Z' F2 σ ρ2 H2 ∧ relO C.K Z' F2 H2 σ ρ2 x o1 ∧ relO C.K Z' F2 H2 σ ρ2 y o2 ∧ At C (relE C.K) Z' F2 σ (fun v H1 => ∃ k, v = .bl k ∧ Q k H1) (optR ((((peek ρ2 o1).bind clsOf).bind fun c => ((peek ρ2 o2).bind clsOf).bind fun c' => if c' = c then tab c else none)) fun mi => (sRun 2 mi.tl mi.ms mi.m [] [toAv o1, toAv o2] ρ2).bind fun a ρ3 => optR (blNot a) fun b => .ok (.bl b, false) ρ3)) :=
    tG.step S' h' fun o1 ρ1 F1 H1 v l S1 r m1 => tG.step S1 m1 fun o2 ρ2 F2 H2 w l2 S2 r2 m2 => ⟨F2, ρ2, o1, o2, S2, relO_later l2 r, r2, m2⟩
  refine wpAny_isTrue_Compare1 (thn (ha.run pins s σ H _ I h1) fun v s1 ⟨x, H1, I1, r1, q1⟩ => thn (hb.run pins s1 σ H1 _ I1 q1) fun u s2 ⟨y, H2, I2, r2, F2, ρ2, o1, o2, S2, w1, w2, m⟩ =>
    thn (neO_at hk hm hn hr tk I2 r1 r2 S2 w1 w2 m) fun c s3 ⟨z, H3, I3, r3, k, e, q3⟩ => ?_) (nomark b)
  subst e
  cases r3
  exact wpAny_truthy_bool ⟨H3, I3, q3⟩
end
section
variable {ρ : Rho} {QE : R (D × Bool) → Prop}
@[simp ↓] theorem w_neO {tab : Str → Option MI} {f1 f2 : Rho → R Opd} : wpR (sNeO tab f1 f2 ρ) QE = wpR (f1 ρ) (ThR (fun o1 ρ1 => (f2 ρ1).bind fun o2 ρ2 => optR ((((peek ρ2 o1).bind clsOf).bind fun c => ((peek ρ2 o2).bind clsOf).bind fun c' => if c' = c then tab c else none)) fun mi => (sRun 2 mi.tl mi.ms mi.m [] [toAv o1, toAv o2] ρ2).bind fun a ρ3 => optR (blNot a) fun b => .ok (.bl b, false) ρ3) QE) := wp_bind
@[simp] theorem blNot_b {b fr : Bool} : blNot (.bl b, fr) = some (!b) := rfl
end
end Nu
namespace Nu
open PySem PySem.Spec PyProof.Rows L2
variable {C : Cq} {Z Z' F F' H H' : Hp} {σ σ' : St} {ρ ρ' : Rho} {X : Cx} {K : PySem.W.Frag}
/-! ## repr -/
def cpsOk (x : Str) : Bool := x.cps.toList.all fun c => decide (c < 1114112)
def ofStr (x : Str) : List Cp := x.cps.toList.map fun c => Fin.ofNat 1114112 c
theorem toStr_ofStr {x : Str} (h : cpsOk x = true) : toStr (ofStr x) = x := by
  obtain ⟨⟨l⟩⟩ := x
  unfold toStr ofStr
  unfold cpsOk at h
  rw [List.all_eq_true] at h
  congr 1
  simp only [List.map_map]
  have e : l.map ((fun (c : Cp) => c.val) ∘ fun c => Fin.ofNat 1114112 c) = l := by
    conv => rhs; rw [← List.map_id l]
    apply List.map_congr_left
    intro c hc
    have := of_decide_eq_true (h c hc)
    simp [Fin.ofNat, Nat.mod_eq_of_lt this]
  exact congrArg List.toArray e
def fitR (p : PyData) : Bool := p.showable && !p.hasDict && decide (p.depth ≤ 60) && decide (p.shown.length ≤ sizeLine) && cpsOk p.shown
def shw (d : D) : Option (List Cp) := (toPy d).bind fun p => if fitR p = true then some (ofStr p.shown) else none
def gRepr : List D → Option (D × Bool)
  | [d] => (shw d).map fun x => (.str x, false)
  | _ => none
def rRepr (K : PySem.W.Frag) : List V → Hp → VK → Prop := fun xs H Q => ∃ x p, xs = [x] ∧ Dp K H x p ∧ fitR p = true ∧ Q (.str p.shown) H
theorem o_repr : OpN K (rRepr K) gRepr := fun F H xs ds d fr Q l r e k => by
  match ds, r, e with
  | [dx], r, e =>
    obtain ⟨v, rfl, rv⟩ := rls1 r
    obtain ⟨x, e1, e2⟩ := Option.map_eq_some_iff.mp (show (shw dx).map (fun x => (D.str x, false)) = some (d, fr) from e)
    cases e2
    obtain ⟨p, e3, e4⟩ := Option.bind_eq_some_iff.mp e1
    split at e4
    · rename_i hf
      cases e4
      refine ⟨v, p, rfl, rv.dp l e3, hf, ?_⟩
      have ho : cpsOk p.shown = true := by unfold fitR at hf; simp only [Bool.and_eq_true] at hf; exact hf.2
      have := grow_same l (Rel.str (K := K) (F := F) (ofStr p.shown)) k
      rw [toStr_ofStr ho] at this
      exact this
    · cases e4
  | [], _, e => cases e
  | dx :: _ :: _, _, e => cases e
theorem call_repr {k : Nat} (hr : Room k X.A) : CallR X (.builtin "repr") (rRepr X.K) := by
  intro pins s σ H xs us Q I r h
  obtain ⟨x, p, rfl, hp, hf, q⟩ := h
  obtain ⟨u, rfl, ru⟩ := vals1 r
  obtain ⟨as, rd⟩ := Dp.reads I p x u hp ru
  unfold fitR at hf
  simp only [Bool.and_eq_true, Bool.not_eq_true', decide_eq_true_eq] at hf
  obtain ⟨⟨⟨⟨h1, h2⟩, h3⟩, h4⟩, h5⟩ := hf
  have fin : ∀ h' u tk, (∀ b o, s.heap.get? b = some o → h'.get? b = some o) → EP X pins σ Q (.str p.shown u) { s with heap := h', toks := tk } := fun h' u tk kp => ⟨.str p.shown, H, I.kept kp, ⟨u, rfl⟩, q⟩
  have un := hr.un
  cases rd with
  | none => exact PySem.P.repr_of_none (by have := fin s.heap s.toks (s.toks + 1) fun _ _ e => e; rw [PyData.shown_none] at this; exact this)
  | bool b => exact PySem.P.repr_of_bool (by have := fin s.heap s.toks (s.toks + 1) fun _ _ e => e; rw [PyData.shown_bool] at this; cases b <;> exact this)
  | int i t => exact PySem.P.repr_of_int (by simpa [PyData.showable] using h1) (by have := fin s.heap s.toks (s.toks + 1) fun _ _ e => e; rw [PyData.shown_int] at this; exact this)
  | str x t => exact PySem.P.repr_of_str (by have := fin s.heap s.toks (s.toks + 1) fun _ _ e => e; rw [PyData.shown_str] at this; exact this) (by rw [← PyData.shown_str]; exact h4)
  | list a b c d => exact repr_of_reads' (.list a b c d) h1 (PyData.noDict_hsm h2) hr.gd (by omega) (fun _ _ e => e) fin h4
  | tuple a b c d => exact repr_of_reads' (.tuple a b c d) h1 (PyData.noDict_hsm h2) hr.gd (by omega) (fun _ _ e => e) fin h4
  | dict => simp [PyData.hasDict] at h2
/-! ### data that repr takes -/
theorem cpsOk_app {a b : Str} (h1 : cpsOk a = true) (h2 : cpsOk b = true) : cpsOk (a ++ b) = true := by
  unfold cpsOk at *
  show ((a.cps ++ b.cps).toList.all _) = true
  rw [Array.toList_append, List.all_append, h1, h2]
  rfl
theorem cpsOk_of (x : String) : cpsOk (x : Str) = true := by
  show cpsOk (Str.ofString x) = true
  rw [Str.ofString_eq_toList]
  unfold cpsOk
  rw [List.all_eq_true]
  intro c hc
  obtain ⟨d, _, rfl⟩ := List.mem_map.mp (by simpa using hc)
  have := d.valid
  refine decide_eq_true ?_
  rcases this with h | ⟨_, h⟩
  · exact Nat.lt_trans h (by decide)
  · exact h
theorem cpsOk_join {sep : Str} (hs : cpsOk sep = true) : ∀ ts : List Str, (∀ t ∈ ts, cpsOk t = true) → cpsOk (Str.join sep ts) = true
  | [], _ => rfl
  | [x], h => h x (List.mem_cons_self ..)
  | x :: y :: r, h => cpsOk_app (cpsOk_app (h x (List.mem_cons_self ..)) hs) (cpsOk_join hs (y :: r) fun t ht => h t (List.mem_cons_of_mem _ ht))
theorem repr_char_ok (q c : Nat) (hc : c < 1114112) : ∀ x ∈ Builtin.Str.reprChar q c, x < 1114112 := by
  have hx : ∀ (w : Nat) (x : Nat), x ∈ (List.replicate (w - ((Nat.toDigits 16 c).map Char.toNat).length) 48 ++ (Nat.toDigits 16 c).map Char.toNat) → x < 1114112 := by
    intro w x hx
    rcases List.mem_append.mp hx with h | h
    · rw [(List.mem_replicate.mp h).2]; decide
    · obtain ⟨d, _, rfl⟩ := List.mem_map.mp h
      rcases d.valid with h | ⟨_, h⟩
      · exact Nat.lt_trans h (by decide)
      · exact h
  intro x h
  unfold Builtin.Str.reprChar at h
  repeat' split at h
  all_goals first
    | (simp only [List.mem_cons, List.mem_nil_iff, or_false] at h; omega)
    | (rcases List.mem_append.mp h with h | h
       · simp only [List.mem_cons, List.mem_nil_iff, or_false] at h; omega
       · exact hx _ x h)
theorem fold_repr_ok (q : Nat) : ∀ (l : List Nat) (acc : Array Nat), (∀ c ∈ l, c < 1114112) → (∀ c ∈ acc.toList, c < 1114112) → ∀ c ∈ (l.foldl (fun out c => out ++ (Builtin.Str.reprChar q c).toArray) acc).toList, c < 1114112
  | [], acc, _, h => h
  | c :: r, acc, hl, h => by
    rw [List.foldl_cons]
    refine fold_repr_ok q r _ (fun d hd => hl d (List.mem_cons_of_mem _ hd)) fun d hd => ?_
    rw [Array.toList_append] at hd
    rcases List.mem_append.mp hd with z | z
    · exact h d z
    · exact repr_char_ok q c (hl c (List.mem_cons_self ..)) d (by simpa using z)
theorem cpsOk_repr {x : Str} (h : cpsOk x = true) : cpsOk (reprText x) = true := by
  have hq : reprQuote x < 1114112 := by unfold reprQuote; split <;> decide
  unfold cpsOk at *
  rw [List.all_eq_true] at *
  intro c hc
  unfold reprText at hc
  rw [Array.toList_push, ← Array.foldl_toList] at hc
  refine decide_eq_true ?_
  rcases List.mem_append.mp hc with z | z
  · exact fold_repr_ok _ _ _ (fun c hc => of_decide_eq_true (h c hc)) (fun c hc => by simp at hc; omega) c z
  · simp at z; omega
mutual
theorem cpsOk_shown : ∀ p : PyData, p.canLay0 = true → cpsOk p.shown = true
  | .none, _ => by rw [PyData.shown_none]; exact cpsOk_of _
  | .bool b, _ => by rw [PyData.shown_bool]; cases b <;> exact cpsOk_of _
  | .int i, _ => by rw [PyData.shown_int]; exact cpsOk_of _
  | .str x, h => by
    rw [PyData.shown_str]
    refine cpsOk_repr ?_
    have h' : PyData.strOk x = true := by simpa [PyData.canLay0] using h
    unfold cpsOk
    unfold PyData.strOk at h'
    rw [List.all_eq_true]
    rw [← Array.all_toList, List.all_eq_true] at h'
    intro c hc
    have := h' c hc
    simpa using this
  | .list xs, h => by
    rw [PyData.shown_list]
    exact cpsOk_app (cpsOk_app (cpsOk_of _) (cpsOk_join (cpsOk_of _) _ (cpsOk_showns xs (by simpa [PyData.canLay0] using h)))) (cpsOk_of _)
  | .tuple xs, h => by
    rw [PyData.shown_tuple]
    exact cpsOk_app (cpsOk_app (cpsOk_of _) (cpsOk_join (cpsOk_of _) _ (cpsOk_showns xs (by simpa [PyData.canLay0] using h)))) (cpsOk_of _)
  | .dict _, h => by simp [PyData.canLay0] at h
theorem cpsOk_showns : ∀ ps : List PyData, PyData.canLayAll0 ps = true → ∀ t ∈ PyData.shownAll ps, cpsOk t = true
  | [], _ => by simp [PyData.shownAll]
  | p :: ps, h => by
    have h' : p.canLay0 = true ∧ PyData.canLayAll0 ps = true := by simpa [PyData.canLayAll0] using h
    intro t ht
    rw [PyData.shownAll_cons] at ht
    rcases List.mem_cons.mp ht with rfl | ht
    · exact cpsOk_shown p h'.1
    · exact cpsOk_showns ps h'.2 t ht
end
mutual
/-- plain data, at most n deep, numbers short -/
def repB : Nat → D → Bool
  | _, .non => true
  | _, .bl _ => true
  | _, .int i => decide (i.natAbs < 10 ^ 12)
  | _, .str _ => true
  | 0, .tup _ => false
  | 0, .lst _ => false
  | n + 1, .tup ds => repsB n ds
  | n + 1, .lst ds => repsB n ds
  | _, _ => false
def repsB : Nat → List D → Bool
  | _, [] => true
  | n, d :: ds => repB n d && repsB n ds
end
mutual
def blk : D → Nat
  | .str x => x.length
  | .tup ds => blks ds
  | .lst ds => blks ds
  | _ => 0
def blks : List D → Nat
  | [] => 0
  | d :: ds => blk d + 1 + blks ds
end
structure RepP (n : Nat) (p : PyData) : Prop where
  lay : p.canLay0 = true
  dep : p.depth ≤ n
  short : p.intsShort 13 = true
  show' : p.showable = true
  nod : p.hasDict = false
structure RepPs (n : Nat) (ps : List PyData) : Prop where
  lay : PyData.canLayAll0 ps = true
  dep : PyData.depthAll ps ≤ n
  short : PyData.intsShortAll 13 ps = true
  show' : PyData.showableAll ps = true
  nod : PyData.hasDictAll ps = false
theorem log_small {i : Int} (h : i.natAbs < 10 ^ 12) : i.natAbs.log2 < 1920 := by
  by_cases h0 : i.natAbs = 0
  · rw [h0]; decide
  · have := (Nat.log2_lt h0 (k := 1920)).mpr (Nat.lt_trans h (by decide +kernel))
    exact this
mutual
theorem rep_py : ∀ (n : Nat) (d : D), repB n d = true → ∃ p, toPy d = some p ∧ RepP n p ∧ p.bulk = blk d
  | n, .non, _ => ⟨.none, by simp [toPy], ⟨by simp [PyData.canLay0], by simp [PyData.depth], by simp [PyData.intsShort], by simp [PyData.showable], by simp [PyData.hasDict]⟩, by simp [PyData.bulk, blk]⟩
  | n, .bl b, _ => ⟨.bool b, by simp [toPy], ⟨by simp [PyData.canLay0], by simp [PyData.depth], by simp [PyData.intsShort], by simp [PyData.showable], by simp [PyData.hasDict]⟩, by simp [PyData.bulk, blk]⟩
  | n, .int b, h => by
    have hb : b.natAbs < 10 ^ 12 := by simpa [repB] using h
    exact ⟨.int b, by simp [toPy], ⟨by simp [PyData.canLay0], by simp [PyData.depth], by simp only [PyData.intsShort]; exact decide_eq_true (PyData.shown_int_le hb), by simp only [PyData.showable]; exact decide_eq_true (log_small hb), by simp [PyData.hasDict]⟩, by simp [PyData.bulk, blk]⟩
  | n, .str b, _ => ⟨.str (toStr b), by simp [toPy], ⟨by simp [PyData.canLay0, strOk_toStr], by simp [PyData.depth], by simp [PyData.intsShort], by simp [PyData.showable], by simp [PyData.hasDict]⟩, by simp [PyData.bulk, blk, toStr]⟩
  | 0, .tup _, h => by simp [repB] at h
  | 0, .lst _, h => by simp [repB] at h
  | n + 1, .tup ds, h => by
    obtain ⟨ps, e, h1, h2⟩ := reps_py n ds (by simpa [repB] using h)
    exact ⟨.tuple ps, by simp [toPy, e], ⟨by simp [PyData.canLay0, h1.lay], by simp [PyData.depth]; exact h1.dep, by simp [PyData.intsShort, h1.short], by simp [PyData.showable, h1.show'], by simp [PyData.hasDict, h1.nod]⟩, by simp [PyData.bulk, blk, h2]⟩
  | n + 1, .lst ds, h => by
    obtain ⟨ps, e, h1, h2⟩ := reps_py n ds (by simpa [repB] using h)
    exact ⟨.list ps, by simp [toPy, e], ⟨by simp [PyData.canLay0, h1.lay], by simp [PyData.depth]; exact h1.dep, by simp [PyData.intsShort, h1.short], by simp [PyData.showable, h1.show'], by simp [PyData.hasDict, h1.nod]⟩, by simp [PyData.bulk, blk, h2]⟩
  | n, .ty _, h => by simp [repB] at h
  | n, .obj _ _, h => by simp [repB] at h
  | n, .scr _, h => by simp [repB] at h
theorem reps_py : ∀ (n : Nat) (ds : List D), repsB n ds = true → ∃ ps, toPys ds = some ps ∧ RepPs n ps ∧ PyData.bulkAll ps = blks ds
  | n, [], _ => ⟨[], by simp [toPys], ⟨by simp [PyData.canLayAll0], by simp [PyData.depthAll], by simp [PyData.intsShortAll], by simp [PyData.showableAll], by simp [PyData.hasDictAll]⟩, by simp [PyData.bulkAll, blks]⟩
  | n, d :: ds, h => by
    have h' : repB n d = true ∧ repsB n ds = true := by simpa [repsB] using h
    obtain ⟨p, e, h1, h2⟩ := rep_py n d h'.1
    obtain ⟨ps, e', h3, h4⟩ := reps_py n ds h'.2
    exact ⟨p :: ps, by simp [toPys, e, e'], ⟨by simp [PyData.canLayAll0, h1.lay, h3.lay], by have := h1.dep; have := h3.dep; simp [PyData.depthAll]; omega, by simp [PyData.intsShortAll, h1.short, h3.short], by simp [PyData.showableAll, h1.show', h3.show'], by simp [PyData.hasDictAll, h1.nod, h3.nod]⟩, by simp [PyData.bulkAll, blks, h2, h4]⟩
end
/-- repr of data -/
def rTx (d : D) : List Cp := (shw d).getD []
structure Rep (d : D) : Prop where
  ex : ∃ n, n ≤ 60 ∧ repB n d = true
  sm : blk d ≤ 2 ^ 20
theorem shw_ok {d : D} (h : Rep d) : shw d = some (rTx d) := by
  obtain ⟨n, hn, hb⟩ := h.ex
  obtain ⟨p, e, q, b⟩ := rep_py n d hb
  have hsm := h.sm
  have hl : p.shown.length ≤ sizeLine := PyData.shown_fits_bulk (B := 13) (by decide) (by decide) (PyData.leavesShort_of_canLay0 13 p q.lay q.short) (by rw [b]; exact hsm)
  have hf : fitR p = true := by
    unfold fitR
    rw [q.show', q.nod, decide_eq_true (Nat.le_trans q.dep hn), decide_eq_true hl, cpsOk_shown p q.lay]
    rfl
  have e1 : shw d = some (ofStr p.shown) := by simp [shw, e, hf]
  unfold rTx
  rw [e1]
  rfl
theorem gRepr_ok {d : D} (h : Rep d) : gRepr [d] = some (.str (rTx d), false) := by
  show (shw d).map _ = _
  rw [shw_ok h]
  rfl
theorem repsB_all {n : Nat} : ∀ {ds : List D}, (∀ d ∈ ds, repB n d = true) → repsB n ds = true
  | [], _ => by simp [repsB]
  | d :: ds, h => by simp [repsB, h d (List.mem_cons_self ..), repsB_all fun e he => h e (List.mem_cons_of_mem _ he)]
theorem blks_le {b : Nat} : ∀ {ds : List D}, (∀ d ∈ ds, blk d ≤ b) → blks ds ≤ ds.length * (b + 1)
  | [], _ => by simp [blks]
  | d :: ds, h => by
    have h1 := h d (List.mem_cons_self ..)
    have h2 := blks_le fun e he => h e (List.mem_cons_of_mem d he)
    simp only [blks, List.length_cons, Nat.add_mul, Nat.one_mul]
    omega
end Nu
namespace Nu
open PySem PySem.Spec PyProof.Rows L2
section
variable {C : Cq} {Z Z' F F' H H' : Hp} {σ σ' : St} {ρ ρ' : Rho} {X : Cx}
/-! ## == of an object and of any value -/
def tyN : D → Option String
  | .non => some "NoneType"
  | .bl _ => some "bool"
  | .int _ => some "int"
  | .str _ => some "str"
  | .tup _ => some "tuple"
  | .lst _ => some "list"
  | .scr _ => some "list"
  | _ => none
def eqSel (tab : Str → Option MI) (d1 d2 : D) : Option MI := (clsOf d1).bind fun c => match clsOf d2 with
  | some c' => if c' = c then tab c else none
  | none => if (tyN d2).isSome = true then tab c else none
theorem ty_notFirst {K : PySem.W.Frag} {Cl : Addr} {d : D} {t : String} (h : tyN d = some t) : PySem.W.notFirst K Cl (.type t) = true := by
  cases d <;> cases h <;> rfl
theorem ty_looks {K : PySem.W.Frag} {pins : List (Addr × Obj)} {s : Shared} {y : V} {u : Value} {d : D} {t : String} (hk : X.K = K) (I : Inv X pins σ H s) (ry : RelV y u) (l : Le F H) (r : Rl K F H y d) (h : tyN d = some t) : PySem.W.Looks (model X.prog X.w) s.heap (typeOf u) (.type t) := by
  subst hk
  cases d with
  | non => cases h; rw [r.non] at ry; cases ry; exact PySem.W.Looks.of_pure rfl
  | bl b => cases h; rw [r.bl] at ry; cases ry; exact PySem.W.Looks.of_pure rfl
  | int i => cases h; rw [r.int] at ry; obtain ⟨_, rfl⟩ := ry; exact PySem.W.Looks.of_pure rfl
  | str x => cases h; rw [r.str] at ry; obtain ⟨_, rfl⟩ := ry; exact PySem.W.Looks.of_pure rfl
  | tup ds =>
    cases h
    obtain ⟨a, vs, rfl, w, _⟩ := r.tup l
    cases ry
    obtain ⟨its, rv, ⟨o, ho, hc, n, hd⟩, _⟩ := I.tuple w
    exact fun A Q E s k q => wpAny_typeOf_ref (k _ _ ho) (by rw [hc]; exact q)
  | lst ds =>
    cases h
    obtain ⟨a, vs, rfl, w, _⟩ := r.lst l
    cases ry
    obtain ⟨its, rv, ⟨o, n, ho, hc, _, hd⟩, _⟩ := I.list (.of w)
    exact fun A Q E s k q => wpAny_typeOf_ref (k _ _ ho) (by rw [hc]; exact q)
  | scr ds =>
    cases h
    obtain ⟨a, vs, rfl, w, _⟩ := r.scr l
    cases ry
    obtain ⟨its, rv, ⟨o, n, ho, hc, _, hd⟩, _⟩ := I.list w
    exact fun A Q E s k q => wpAny_typeOf_ref (k _ _ ho) (by rw [hc]; exact q)
  | ty n => cases h
  | obj c fs => cases h
def sEqA (tab : Str → Option MI) (f1 f2 : Rho → R Opd) (ρ : Rho) : R (D × Bool) :=
  (f1 ρ).bind fun o1 ρ1 => (f2 ρ1).bind fun o2 ρ2 => optR ((peek ρ2 o1).bind fun d1 => (peek ρ2 o2).bind fun d2 => eqSel tab d1 d2) fun mi => sRun 2 mi.tl mi.ms mi.m [] [toAv o1, toAv o2] ρ2
theorem eqA_at {tab : Str → Option MI} {k : Nat} {pins : List (Addr × Obj)} {s : Shared} {x y : V} {v u : Value} {o1 o2 : Opd} {Q : VK} (hk : X.K = C.K) (hm : OpOk X k tab "__eq__" 2) (hr : Room k X.A) (tk : L2N.Takes X C.W) (I : Inv X pins σ H s) (rx : RelV x v) (ry : RelV y u) (S2 : SR C.K C.P Z F σ ρ H) (r1 : relO C.K Z F H σ ρ x o1) (r2 : relO C.K Z F H σ ρ y o2)
    (m : At C (relE C.K) Z F σ Q (optR ((peek ρ o1).bind fun d1 => (peek ρ o2).bind fun d2 => eqSel tab d1 d2) fun mi => sRun 2 mi.tl mi.ms mi.m [] [toAv o1, toAv o2] ρ)) : wpAny (model X.prog X.w) X.A (compareOp .Eq v u) (EP X pins σ Q) X.xe s := by
  obtain ⟨mi, e, m⟩ := at_opt m
  obtain ⟨d1, e1, e⟩ := Option.bind_eq_some_iff.mp e
  obtain ⟨d2, e2, e⟩ := Option.bind_eq_some_iff.mp e
  obtain ⟨c, ec, e⟩ := Option.bind_eq_some_iff.mp e
  obtain ⟨p, dp, vp, rfl, hp⟩ := peek_ins S2 r1 (by rw [e1]; exact ec)
  have low : tab c = some mi ∧ ∃ tb, PySem.W.Looks (model X.prog X.w) s.heap (typeOf u) tb ∧ PySem.W.notFirst X.K (He.ga X.K c) tb = true := by
    cases q : clsOf d2 with
    | some c' =>
      rw [q] at e
      simp only at e
      split at e
      · rename_i e'
        subst e'
        obtain ⟨b, db, vb, rfl, hb⟩ := peek_ins S2 r2 (by rw [e2]; exact q)
        cases ry
        rw [← hk] at hb
        obtain ⟨mB, J', _⟩ := ins_get I.hok hb
        obtain ⟨od', J', _⟩ := J'.look
        exact ⟨e, _, J'.type, by simp [PySem.W.notFirst]⟩
      · cases e
    | none =>
      rw [q] at e
      simp only at e
      split at e
      · rename_i e'
        obtain ⟨t, et⟩ := Option.isSome_iff_exists.mp e'
        exact ⟨e, _, ty_looks hk I ry S2.fh (peek_rl S2 r2 e2) et, ty_notFirst et⟩
      · cases e
  obtain ⟨e3, tb, hb, hn⟩ := low
  obtain ⟨M, G⟩ := hm c mi e3
  cases rx
  rw [← hk] at hp
  obtain ⟨mA, J, _⟩ := ins_get I.hok hp
  obtain ⟨od, J, _⟩ := J.look
  obtain ⟨m', hF⟩ := I.fr
  refine PySem.W.cmp_K (op := .Eq) (tb := tb) hr.units0 hF I.ok.mod.kin J hb hn M.fi M.fn ?_
  refine wpAny_mono (run_fv (us := [.ref p, u]) (vs := [.ref p, y]) (ws := []) (zs := []) hk G hr tk I S2 (.cons rfl (.cons ry .nil)) .nil (avs_two r1 r2) .nil rfl m) (fun v s' hv => ?_) fun _ _ x => x
  obtain ⟨x, H', I', rx, hq⟩ := hv
  exact back_ok (relV_ni rx) ⟨x, H', I', rx, hq⟩
theorem de_eqA {tab : Str → Option MI} {k : Nat} {a b : Expr} {f1 f2 : Rho → R Opd} {pos : Pos} (hk : X.K = C.K) (hm : OpOk X k tab "__eq__" 2) (hr : Room k X.A) (tk : L2N.Takes X C.W) (ha : PE X a (tO C f1)) (hb : PE X b (tO C f2)) :
    PE X (.Compare a [.Eq] [b] pos) (tE C (sEqA tab f1 f2)) := by
  refine ⟨fun pins s σ H Q I ⟨Z, F, ρ, S, h⟩ => ?_⟩
  have h1 : tO C f1 σ H (fun x H1 => tO C f2 σ H1 fun y H2 => ∃ F2 ρ2 o1 o2, SR C.K C.P Z F2 σ ρ2 H2 ∧ relO C.K Z F2 H2 σ ρ2 x o1 ∧ relO C.K Z F2 H2 σ ρ2 y o2 ∧ At C (relE C.K) Z F2 σ Q (optR ((peek ρ2 o1).bind fun d1 => (peek ρ2 o2).bind fun d2 => eqSel tab d1 d2) fun mi => sRun 2 mi.tl mi.ms mi.m [] [toAv o1, toAv o2] ρ2)) :=
    tG.step S h fun o1 ρ1 F1 H1 v l S1 r m1 => tG.step S1 m1 fun o2 ρ2 F2 H2 w l2 S2 r2 m2 => ⟨F2, ρ2, o1, o2, S2, relO_later l2 r, r2, m2⟩
  exact wpAny_Compare1 (binT ha hb I h1 fun v u s2 x y H2 I2 rx ry ⟨F2, ρ2, o1, o2, S2, r1, r2, m⟩ => eqA_at hk hm hr tk I2 rx ry S2 r1 r2 m) (nomark b)
theorem dt_eqA {tab : Str → Option MI} {k : Nat} {a b : Expr} {f1 f2 : Rho → R Opd} {pos : Pos} (hk : X.K = C.K) (hm : OpOk X k tab "__eq__" 2) (hr : Room k X.A) (tk : L2N.Takes X C.W) (ha : PE X a (tO C f1)) (hb : PE X b (tO C f2)) :
    PT X (.Compare a [.Eq] [b] pos) (tT C (sTest (sEqA tab f1 f2))) := by
  refine ⟨fun pins s σ H Q I ⟨Z, F, ρ, S, h⟩ => ?_⟩
  have h0 : tE C (sEqA tab f1 f2) σ H fun v H1 => ∃ k, v = .bl k ∧ Q k H1 := tG.step S h fun a ρ1 F1 H1 v l S1 r m1 => by
    obtain ⟨d, fr⟩ := a
    cases d with
    | bl b => exact ⟨b, rv_bl r, m1 F1 H1 b (Evl.Ex.refl F1) S1 rfl⟩
    | _ => exact m1.elim
  obtain ⟨Z', F', ρ', S', h'⟩ := h0
  have h1 : tO C f1 σ H (fun x H1 => tO C f2 σ H1 fun y H2 => ∃ F2 ρ2 o1 o2, SR C.K C.P Z' F2 σ ρ2 H2 ∧ relO C.K Z' F2 H2 σ ρ2 x o1 ∧ relO C.K Z' F2 H2 σ ρ2 y o2 ∧ At C (relE C.K) Z' F2 σ (fun v H1 => ∃ k, v = .bl k ∧ Q k H1) (optR ((peek ρ2 o1).bind fun d1 => (peek ρ2 o2).bind fun d2 => eqSel tab d1 d2) fun mi => sRun 2 mi.tl mi.ms mi.m [] [toAv o1, toAv o2] ρ2)) :=
    tG.step S' h' fun o1 ρ1 F1 H1 v l S1 r m1 => tG.step S1 m1 fun o2 ρ2 F2 H2 w l2 S2 r2 m2 => ⟨F2, ρ2, o1, o2, S2, relO_later l2 r, r2, m2⟩
  refine wpAny_isTrue_Compare1 (thn (ha.run pins s σ H _ I h1) fun v s1 ⟨x, H1, I1, r1, q1⟩ => thn (hb.run pins s1 σ H1 _ I1 q1) fun u s2 ⟨y, H2, I2, r2, F2, ρ2, o1, o2, S2, w1, w2, m⟩ =>
    thn (eqA_at hk hm hr tk I2 r1 r2 S2 w1 w2 m) fun c s3 ⟨z, H3, I3, r3, k, e, q3⟩ => ?_) (nomark b)
  subst e
  cases r3
  exact wpAny_truthy_bool ⟨H3, I3, q3⟩
/-! ## an object's truth, where its class tells none -/
structure NoTru (K : PySem.W.Frag) (c : Str) : Prop where
  bo : PySem.W.findIn K (.ref (He.ga K c)) "__bool__" = some none
  le : PySem.W.findIn K (.ref (He.ga K c)) "__len__" = some none
theorem fTru_ok {c : Str} {K : PySem.W.Frag} (h : fTru c K = true) : NoTru K c := by
  unfold fTru at h
  obtain ⟨h1, h2⟩ := He.ba h
  exact ⟨of_decide_eq_true h1, of_decide_eq_true h2⟩
/-- the truth of data; cs: classes whose objects are true -/
def truD (cs : List Str) : D → Option Bool
  | .non => some false
  | .bl b => some b
  | .int i => some (i != 0)
  | .str x => if x.length ≤ sizeLine then some (!x.isEmpty) else none
  | .tup ds => some (!ds.isEmpty)
  | .lst ds => some (!ds.isEmpty)
  | .scr ds => some (!ds.isEmpty)
  | .obj c _ => if c ∈ cs then some true else none
  | .ty _ => none
def TruOk (K : PySem.W.Frag) (cs : List Str) : Prop := ∀ c ∈ cs, NoTru K c
theorem truOk {K : PySem.W.Frag} {cs : List Str} (h : (cs.all fun c => fTru c K) = true) : TruOk K cs := fun c hc => fTru_ok (List.all_eq_true.mp h c hc)
theorem rels_empty {K : PySem.W.Frag} {vs : List V} {ds : List D} (h : Rels K F vs ds) : vs.isEmpty = ds.isEmpty := by cases h <;> rfl
theorem tru_at {cs : List Str} {pins : List (Addr × Obj)} {s : Shared} {x : V} {v : Value} {d : D} {b : Bool} {Q : Bool → Hp → Prop} (hk : X.K = C.K) (hn : TruOk C.K cs) (I : Inv X pins σ H s) (rx : RelV x v) (l : Le F H) (r : Rl C.K F H x d) (e : truD cs d = some b) (q : Q b H) : wpAny (model X.prog X.w) X.A (truthy v) (fun k s' => ∃ H', Inv X pins σ H' s' ∧ Q k H') X.xe s := by
  have low : ∀ k, TruV X.K x H k → k = b → wpAny (model X.prog X.w) X.A (truthy v) (fun k s' => ∃ H', Inv X pins σ H' s' ∧ Q k H') X.xe s := fun k t z => tru_ok pins s σ H x v Q I rx ⟨k, t, by rw [z]; exact q⟩
  cases d with
  | non => cases e; rw [r.non] at low; exact low _ (show false = false from rfl) rfl
  | bl i => cases e; rw [r.bl] at low; exact low _ (show b = b from rfl) rfl
  | int i => cases e; rw [r.int] at low; exact low _ (show (i != 0) = (i != 0) from rfl) rfl
  | str z =>
    have e' : (if z.length ≤ sizeLine then some (!z.isEmpty) else none) = some b := e
    split at e'
    · rename_i hz
      cases e'
      rw [r.str] at low
      refine low _ (show (toStr z).length ≤ sizeLine ∧ _ = (((toStr z).length : Int) != 0) from ⟨by rw [toStr_length]; exact hz, rfl⟩) ?_
      rw [toStr_length]
      cases z <;> simp
      omega
    · cases e'
  | tup ds =>
    cases e
    obtain ⟨a, vs, rfl, w, _, rr⟩ := r.tup l
    rw [← hk] at w
    exact low _ (.inr (.inl ⟨vs, w, rfl⟩)) (by rw [rels_empty rr])
  | lst ds =>
    cases e
    obtain ⟨a, vs, rfl, w, rr⟩ := r.lst l
    exact low _ (.inl ⟨vs, .of w, rfl⟩) (by rw [rels_empty rr])
  | scr ds =>
    cases e
    obtain ⟨a, vs, rfl, w, rr⟩ := r.scr l
    rw [← hk] at w
    exact low _ (.inl ⟨vs, w, rfl⟩) (by rw [rels_empty rr])
  | obj c fs =>
    have e' : (if c ∈ cs then some true else none) = some b := e
    split at e'
    · rename_i hc
      cases e'
      have N := hn c hc
      obtain ⟨p, dp, vp, rfl, hp, _⟩ := r.obj l
      rw [← hk] at hp N
      cases rx
      obtain ⟨mA, J, _⟩ := ins_get I.hok hp
      obtain ⟨od, J, _⟩ := J.look
      obtain ⟨m', hF⟩ := I.fr
      exact PySem.W.truthy_K0 hF I.ok.mod.kin J N.bo N.le ⟨H, I, q⟩
    · cases e'
  | ty n => cases e
def sTru (cs : List Str) (f : Rho → R Opd) (ρ : Rho) : R Bool := (f ρ).bind fun o ρ1 => optR ((peek ρ1 o).bind (truD cs)) fun b => .ok b ρ1
theorem dt_tru {cs : List Str} {e : Expr} {f : Rho → R Opd} (hk : X.K = C.K) (hn : TruOk C.K cs) (h : PE X e (tO C f)) (he : ∀ whole, isTrue e X.env whole = (do let v ← whole; standAt e.pos; holding [v] (truthy v)) := by intro _; rfl) : PT X e (tT C (sTru cs f)) := by
  refine ⟨fun pins s σ H Q I ⟨Z, F, ρ, S, m⟩ => ?_⟩
  have h1 : tO C f σ H (fun x H1 => ∃ F1 ρ1 o, SR C.K C.P Z F1 σ ρ1 H1 ∧ relO C.K Z F1 H1 σ ρ1 x o ∧ At C relB Z F1 σ Q (optR ((peek ρ1 o).bind (truD cs)) fun b => .ok b ρ1)) :=
    tG.step S m fun o ρ1 F1 H1 v l S1 r m1 => ⟨F1, ρ1, o, S1, r, m1⟩
  refine isTrue_plain (thn (h.run pins s σ H _ I h1) fun v s1 ⟨x, H1, I1, r1, F1, ρ1, o, S1, r, m1⟩ => ?_) (he _)
  cases e : (peek ρ1 o).bind (truD cs) with
  | none => rw [e] at m1; exact m1.elim
  | some b =>
  rw [e] at m1
  have m2 : At C relB Z F1 σ Q (.ok b ρ1) := m1
  obtain ⟨d, e1, e2⟩ := Option.bind_eq_some_iff.mp e
  exact tru_at hk hn I1 r1 S1.fh (peek_rl S1 r e1) e2 (m2 F1 H1 b (Evl.Ex.refl F1) S1 rfl)
end
end Nu
namespace Nu
open PySem PySem.Spec PyProof.Rows L2
section
variable {C : Cq} {Z Z' F F' H H' : Hp} {σ σ' : St} {ρ ρ' : Rho} {X : Cx}
/-! ## an object made by keywords alone -/
theorem de_makeK0 {k : Nat} {c : Str} {ks : List Str} {n : Nat} {tl : List (Nat ⊕ D)} {ms : List Bool} {m : Mir} {x : Str} {p pos : Pos} {kws : List Keyword} {fk : Rho → R (List Opd)} (hk : X.K = C.K) (G : MkV X k c n ks tl ms m) (hr : Room (k + 1) X.A) (tk : L2N.Takes X C.W) (hg : Gl X x) (hm : X.mg x = some (.ref (He.ga X.K c))) (hkw : PK X kws (tA C fk))
    (hall : (backToKw pos (keywordEach kws X.env)).all (·.1.isSome) = true := by rfl) (hks : (backToKw pos (keywordEach kws X.env)).filterMap (·.1) = ks := by rfl) (hdb : (x == ("__debug__" : Str)) = false := by decide)
    (hpl : ((backTo pos (starEach [] X.env)).any (·.1) || (backToKw pos (keywordEach kws X.env)).any (·.1.isNone)) = false := by rfl) : PE X (.Call (.Name x p) [] kws pos) (tE C (sMkK c n ks.length tl ms m vNil fk)) := by
  refine ⟨fun pins s σ H Q I ⟨Z, F, ρ, S, h⟩ => ?_⟩
  refine wpAny_Call_Name_kw (ld_glob I hg hm ?_ hdb)
  have h' : At C (relE C.K) Z F σ Q ((fk ρ).bind fun os ρ2 => (match vals os with
    | some ds => if ds.length = ks.length then sMk c n tl ms m ds [] ρ2 else .err
    | none => .err)) := h
  have h2 : tA C fk σ H (fun zs H2 => ∃ F2 ρ2 ds, SR C.K C.P Z F2 σ ρ2 H2 ∧ Rels C.K F2 zs ds ∧ zs.length = ks.length ∧ At C (relE C.K) Z F2 σ Q (sMk c n tl ms m ds [] ρ2)) := by
    refine tG.step S h' fun os ρ1 F1 H1 zs l S1 r m1 => ?_
    cases e : vals os with
    | none => rw [e] at m1; exact m1.elim
    | some ds =>
      rw [e] at m1
      simp only at m1
      have rr := vals_rels r e
      by_cases hl : ds.length = ks.length
      · rw [if_pos hl] at m1; exact ⟨F1, ρ1, ds, S1, rr, rr.length.trans hl, m1⟩
      · rw [if_neg hl] at m1; exact m1.elim
  refine PySem.W.callWith_KW0 (h₀ := X.base) I.ok.mod.kin G.kp hall (thn (hkw.run pos pins s σ H _ I h2) fun ws s2 ⟨zs, H2, I2, rz, F2, ρ2, ds, S2, rd, l2, m2⟩ => ⟨I2.kIn, ?_⟩) hpl
  rw [hks]
  exact run_mk hk G hr tk I2 S2 .nil rz .nil rd l2 m2
/-! ## a, b, c = x, y, z -/
theorem ds_par3 {i j l : Nat} {x y z : Str} {a b c : Expr} {g : Rho → R (List Opd)} {px py pz pt pos : Pos} {kt k2 pt2} (hc : X.calm = true) (hN : X.N.Nodup) (hi : X.N[i]? = some x) (hj : X.N[j]? = some y) (hl : X.N[l]? = some z) (hij : i ≠ j) (hil : i ≠ l) (hjl : j ≠ l)
    (hx : X.env.scope.names.lookup x = some .local) (hy : X.env.scope.names.lookup y = some .local) (hz : X.env.scope.names.lookup z = some .local) (ha : PA X [a, b, c] (tA C g))
    (hw : swappedStores [.Tuple [.Name x px, .Name y py, .Name z pz] kt pt] (.Tuple [a, b, c] k2 pt2) X.env = pure (some [x, y, z]))
    (hs : swapsWithSole [.Tuple [.Name x px, .Name y py, .Name z pz] kt pt] (.Tuple [a, b, c] k2 pt2) pos.line X.env = pure false := by rfl) :
    PS X (.Assign [.Tuple [.Name x px, .Name y py, .Name z pz] kt pt] (.Tuple [a, b, c] k2 pt2) pos) (tS C (sPar3 i j l g)) :=
  PS.imp (ps_par3 hc hN hi hj hl hij hil hjl hx hy hz ha hw hs) fun E σ H ⟨Z, F, ρ, S, m⟩ => tG.stepS S m fun os ρ1 F1 H1 vs _ S1 ro m1 => by
    cases e : vals os with
    | none => simp only [e] at m1; exact m1.elim
    | some ds =>
      simp only [e] at m1
      have rr := vals_rels ro e
      match ds, rr, m1 with
      | [], _, m1 => exact m1.elim
      | [_], _, m1 => exact m1.elim
      | [_, _], _, m1 => exact m1.elim
      | _ :: _ :: _ :: _ :: _, _, m1 => exact m1.elim
      | [d, e', f'], rr, m1 =>
        obtain ⟨u, v, w, rfl, r1, r2, r3⟩ := rels3 rr
        refine ⟨u, v, w, rfl, ?_⟩
        have m2 : AtS C Z F1 E (match ((put1 i d ρ1).bind (put1 j e')).bind (put1 l f') with
          | some ρ2 => .nx ρ2
          | none => .err) := m1
        cases q : ((put1 i d ρ1).bind (put1 j e')).bind (put1 l f') with
        | none => rw [q] at m2; exact m2.elim
        | some ρ2 =>
          rw [q] at m2
          obtain ⟨ρ3, q1, q2⟩ := Option.bind_eq_some_iff.mp q
          obtain ⟨ρ4, q3, q4⟩ := Option.bind_eq_some_iff.mp q1
          exact m2 F1 H1 _ (Evl.Ex.refl F1) (((S1.put1 r1 q3).put1 r2 q4).put1 r3 q2)
/-! ## xs[i], y = a pair -/
def setPair (i n : Nat) (x : D) (d : D) (e : D) (ρ : Rho) : Option Rho := (setIx i x d ρ).bind (put1 n e)
def sAsgX (i n : Nat) (fi : Rho → R (D × Bool)) (f : Rho → R Opd) (ρ : Rho) : Ss := Rx (f ρ) fun o ρ1 => match o with
  | .val (.tup [d, e]) => if isLst ρ1[i]? = true then Rx (fi ρ1) fun b ρ2 => optS (setPair i n b.1 d e ρ2) fun ρ3 => .nx ρ3 else .err
  | _ => .err
theorem ds_asgX {i n : Nat} {o ix value : Expr} {y : Str} {fi : Rho → R (D × Bool)} {f : Rho → R Opd} {pos pos' py pt : Pos} {kt : Nat} (hc : X.calm = true) (ho : PE X o (tVar i)) (hi : PE X ix (tE C fi)) (hN : X.N.Nodup) (hn : X.N[n]? = some y) (hy : Loc X.env.scope y) (hv : PE X value (tO C f)) (hk : X.K = C.K)
    (hf : X.fn y = true ∨ X.env.scope.names.lookup y = some .local := by first | exact .inl rfl | exact .inr rfl | assumption)
    (hs : swapsWithSole [.Tuple [.Subscript o ix pos', .Name y py] kt pt] value pos.line X.env = pure false := by rfl)
    (hw : swappedStores [.Tuple [.Subscript o ix pos', .Name y py] kt pt] value X.env = pure none := by rfl) (h1 : (assignEach [.Tuple [.Subscript o ix pos', .Name y py] kt pt] X.env).map (·.2) = [assign (.Tuple [.Subscript o ix pos', .Name y py] kt pt) X.env] := by rfl)
    (ha : ∀ v, assign (.Subscript o ix pos') X.env v = (do
      let ov ← holding [v] (eval o X.env)
      let iv ← holding [v, ov] (eval ix X.env)
      standAt pos'
      holding [v, ov, iv] (setItem ov iv v)
      release [v, ov, iv] []) := by intro _; rfl)
    (e1 : (assignEach [.Subscript o ix pos', .Name y py] X.env).map (·.2) = assign (.Subscript o ix pos') X.env :: (assignEach [.Name y py] X.env).map (·.2) := by rfl) (e2 : (assignEach [.Name y py] X.env).map (·.2) = assign (.Name y py) X.env :: (assignEach [] X.env).map (·.2) := by rfl)
    (e3 : (assignEach [.Subscript o ix pos', .Name y py] X.env).length = 2 := by rfl) (e4 : (assignEach [.Subscript o ix pos', .Name y py] X.env).findIdx? (·.1) = none := by rfl) :
    PS X (.Assign [.Tuple [.Subscript o ix pos', .Name y py] kt pt] value pos) (tS C (sAsgX i n fi f)) :=
  PS.imp (ps_asg hv (pg_tup hc (pgs_cons (pg_sub ho hi set_list ha) (pgs_cons (pg_name hN hn hy hf) pgs_nil e2) e1) e3 e4) hs hw h1) fun E σ H ⟨Z, F, ρ, S, m⟩ => tG.stepS S m fun a ρ1 F1 H1 v l S1 r m1 => by
    match a, r, m1 with
    | .val (.tup [d, e]), r, m1 =>
      have m1' : AtS C Z F1 E (if isLst ρ1[i]? = true then Rx (fi ρ1) fun b ρ2 => optS (setPair i n b.1 d e ρ2) fun ρ3 => .nx ρ3 else .err) := m1
      cases (show Rel C.K F1 v (.tup [d, e]) from r) with
      | tup q rr =>
        obtain ⟨v1, v2, rfl, w1, w2⟩ := rels2 rr
        have q' := sqT_h S1.fh q
        rw [← hk] at q'
        refine ⟨_, _, rfl, q', rfl, v1, [v2], rfl, ?_⟩
        split at m1'
        case isFalse => exact m1'.elim
        rename_i hl
        have key : ∀ v', σ[i]? = some (some v') → tG C (relE C.K) fi σ H1 fun iv H2 => rSetL v' iv v1 H2 fun H3 => ∃ v r, [v2] = v :: r ∧ gName n v σ H3 fun σ' H' => gNil r σ' H' E.nx := fun v' hv' =>
          tG.stepS S1 m1' fun b ρ2 F3 H3 iv l3 S3 rb m2 => by
            have m2' : AtS C Z F3 E (optS (setPair i n b.1 d e ρ2) fun ρ3 => .nx ρ3) := m2
            cases es : setPair i n b.1 d e ρ2 with
            | none => rw [es] at m2'; exact m2'.elim
            | some ρ4 =>
              rw [es] at m2'
              obtain ⟨ρ3, es1, es2⟩ := Option.bind_eq_some_iff.mp es
              obtain ⟨bd, bf⟩ := b
              unfold setIx at es1
              split at es1
              · rename_i ds k nn hi' hb
                split at es1
                · cases es1
                · rename_i hk
                  obtain ⟨j, ea, eb⟩ := Option.map_eq_some_iff.mp es1
                  subst eb
                  obtain ⟨p, rfl, ow⟩ := own_of_slot S3 hi' hk hv'
                  obtain ⟨vs, hp, rr⟩ := ow.at_
                  have hb' : bd = .int nn := hb
                  subst hb'
                  refine ⟨p, vs, nn, j, rfl, rv_int' S3 rb, hp, by rw [rr.length]; exact ea, v2, [], rfl, rfl, ?_⟩
                  have S4 : SR C.K C.P Z F3 σ (ρ2.set i (some (.lst (ds.set j d), k))) (upd H3 p (.lst (vs.set j v1))) := S3.put hi' hk hv' ⟨_, upd_same, rr.set (w1.mono l3) j⟩
                  exact m2' F3 _ _ (Evl.Ex.refl F3) (S4.put1 (w2.mono l3) es2)
              · cases es1
        unfold isLst at hl
        split at hl
        · rename_i ds k hi'
          obtain ⟨v', hv', _⟩ := S1.sl i _ _ hi'
          exact ⟨v', hv', key v' hv'⟩
        · cases hl
    | .var _, _, m1 => exact m1.elim
    | .val .non, _, m1 => exact m1.elim
    | .val (.bl _), _, m1 => exact m1.elim
    | .val (.int _), _, m1 => exact m1.elim
    | .val (.str _), _, m1 => exact m1.elim
    | .val (.ty _), _, m1 => exact m1.elim
    | .val (.lst _), _, m1 => exact m1.elim
    | .val (.obj _ _), _, m1 => exact m1.elim
    | .val (.scr _), _, m1 => exact m1.elim
    | .val (.tup []), _, m1 => exact m1.elim
    | .val (.tup [_]), _, m1 => exact m1.elim
    | .val (.tup (_ :: _ :: _ :: _)), _, m1 => exact m1.elim
end
def as3 : Option (List D) → Option (D × D × D)
  | some [d, e, f] => some (d, e, f)
  | _ => none
section
variable {ρ : Rho} {Q : Ss → Prop}
@[simp ↓] theorem w_par3 {i j l : Nat} {g : Rho → R (List Opd)} : wpS (sPar3 i j l g ρ) Q = wpR (g ρ) (ThX (fun os ρ1 => optS ((as3 (vals os)).bind fun p => ((put1 i p.1 ρ1).bind (put1 j p.2.1)).bind (put1 l p.2.2)) fun ρ2 => .nx ρ2) Q) := by
  rw [← wp_rx]; congr 1; unfold sPar3; congr 1; funext os ρ1
  cases vals os with
  | none => rfl
  | some ds => match ds with
    | [] => rfl
    | [_] => rfl
    | [_, _] => rfl
    | [d, e, f] =>
      simp only [as3, Option.bind_some]
      cases ((put1 i d ρ1).bind (put1 j e)).bind (put1 l f) <;> rfl
    | _ :: _ :: _ :: _ :: _ => rfl
@[simp] theorem as3_3 {a b c : D} : as3 (some [a, b, c]) = some (a, b, c) := rfl
@[simp ↓] theorem w_asgX {i n : Nat} {fi : Rho → R (D × Bool)} {f : Rho → R Opd} : wpS (sAsgX i n fi f ρ) Q = wpR (f ρ) (ThX (fun o ρ1 => match o with
  | .val (.tup [d, e]) => if isLst ρ1[i]? = true then Rx (fi ρ1) fun b ρ2 => optS (setPair i n b.1 d e ρ2) fun ρ3 => .nx ρ3 else .err
  | _ => .err) Q) := by
  rw [← wp_rx]; rfl
end
end Nu
namespace Nu
open PySem PySem.Spec PyProof.Rows L2
section
variable {C : Cq} {Z Z' F F' H H' : Hp} {σ σ' : St} {ρ ρ' : Rho} {X : Cx} {K : PySem.W.Frag}
/-! ## zip of two lists, of two tuples -/
def zipD (xs ys : List D) : List D := List.zipWith (fun a b => D.tup [a, b]) xs ys
theorem zipD_get {xs ys : List D} {i : Nat} {d : D} (h : (zipD xs ys)[i]? = some d) : ∃ a b, xs[i]? = some a ∧ ys[i]? = some b ∧ d = .tup [a, b] := by
  unfold zipD at h
  rw [List.getElem?_zipWith] at h
  cases q : xs[i]? with
  | none => simp [q] at h
  | some a =>
    cases q2 : ys[i]? with
    | none => simp [q, q2] at h
    | some b => simp [q, q2] at h; exact ⟨a, b, rfl, rfl, h.symm⟩
theorem zipD_len (xs ys : List D) : (zipD xs ys).length = min xs.length ys.length := by simp [zipD]
theorem pair2_grow {T : Addr} {x y : V} {d e : D} (l : Le F H) (n : H T = none) (r : Rel K F x d) (r2 : Rel K F y e) : ∃ F2, Grow F H F2 (upd H T (.tup [x, y])) ∧ Rel K F2 (.ref T) (.tup [d, e]) := by
  have g : Grow F H (upd F T (.tup [x, y])) (upd H T (.tup [x, y])) := Grow.frz l n
  exact ⟨_, g, .tup (.of upd_same) (.cons (r.mono g.ff) (.cons (r2.mono g.ff) .nil))⟩
theorem itz_ok {a b : Addr} {vs ws : List V} {ds es : List D} (q : SqL K F a vs) (q2 : SqL K F b ws) (r : Rels K F vs ds) (r2 : Rels K F ws es) : ItOk K F (Itz K a b) (zipD ds es) := by
  refine ⟨fun F' H i d l l' e => ?_, fun F' H i l l' e => ⟨vs, ws, sqL_h (l.trans l') q, sqL_h (l.trans l') q2, ?_⟩⟩
  · obtain ⟨x, y, h1, h2, rfl⟩ := zipD_get e
    obtain ⟨v, hv, w⟩ := r.get h1
    obtain ⟨u, hu, w2⟩ := r2.get h2
    refine ⟨⟨vs, ws, v, u, sqL_h (l.trans l') q, sqL_h (l.trans l') q2, hv, hu⟩, fun z H' ⟨T, x', y', ex, nT, eH, hx, hy⟩ => ?_⟩
    have e1 := hx vs (sqL_h (l.trans l') q)
    have e2 := hy ws (sqL_h (l.trans l') q2)
    rw [hv] at e1; cases e1
    rw [hu] at e2; cases e2
    subst ex eH
    exact pair2_grow l' nT (w.mono l) (w2.mono l)
  · rw [zipD_len] at e
    rw [r.length, r2.length]
    omega
theorem itzT_ok {a b : Addr} {vs ws : List V} {ds es : List D} (q : SqT K F a vs) (q2 : SqT K F b ws) (r : Rels K F vs ds) (r2 : Rels K F ws es) : ItOk K F (RZ.ItzT K a b) (zipD ds es) := by
  refine ⟨fun F' H i d l l' e => ?_, fun F' H i l l' e => ⟨vs, ws, sqT_h (l.trans l') q, sqT_h (l.trans l') q2, ?_⟩⟩
  · obtain ⟨x, y, h1, h2, rfl⟩ := zipD_get e
    obtain ⟨v, hv, w⟩ := r.get h1
    obtain ⟨u, hu, w2⟩ := r2.get h2
    refine ⟨⟨vs, ws, v, u, sqT_h (l.trans l') q, sqT_h (l.trans l') q2, hv, hu⟩, fun z H' ⟨T, x', y', ex, nT, eH, hx, hy⟩ => ?_⟩
    have e1 := hx vs (sqT_h (l.trans l') q)
    have e2 := hy ws (sqT_h (l.trans l') q2)
    rw [hv] at e1; cases e1
    rw [hu] at e2; cases e2
    subst ex eH
    exact pair2_grow l' nT (w.mono l) (w2.mono l)
  · rw [zipD_len] at e
    rw [r.length, r2.length]
    omega
def zipO : List Opd → Option (List D)
  | [.val (.lst xs), .val (.lst ys)] => some (zipD xs ys)
  | [.val (.tup xs), .val (.tup ys)] => some (zipD xs ys)
  | _ => none
def sZip (f : Rho → R (List Opd)) (ρ : Rho) : R (List D) := (f ρ).bind fun os ρ1 => R.of (zipO os) ρ1
theorem di_zip {e e2 : Expr} {f : Rho → R (List Opd)} {p pos tpos : Pos} {elts : List Expr} {kk : Nat} (hk : X.K = C.K) (hg : Gl X "zip") (hm : X.mg "zip" = none) (ha : PA X [e, e2] (tA C f))
    (hs : starEach [e, e2] X.env = (false, eval e X.env) :: starEach [e2] X.env := by rfl) (hpl : (backTo pos (starEach [e2] X.env)).any (·.1) = false := by rfl) : PI X (.Tuple elts kk tpos) (.Call (.Name "zip" p) [e, e2] [] pos) (tI C (sZip f)) :=
  PI.imp (RZ.pi_zipA hg hm ha hs hpl) fun σ H Rr ⟨Z, F, ρ, S, m⟩ => by
    have m' : At C (relI C.K) Z F σ Rr ((f ρ).bind fun os ρ1 => R.of (zipO os) ρ1) := m
    refine ⟨Z, F, ρ, S, ?_⟩
    cases hf : f ρ with
    | err => rw [hf] at m'; exact m'.elim
    | exc c fs ρ1 => rw [hf] at m'; exact m'
    | ok os ρ1 =>
      rw [hf] at m'
      have m2 : At C (relI C.K) Z F σ Rr (R.of (zipO os) ρ1) := m'
      intro F1 H1 vs l S1 r
      cases ez : zipO os with
      | none => rw [ez] at m2; exact m2.elim
      | some zs =>
        rw [ez] at m2
        unfold zipO at ez
        split at ez
        · cases ez
          obtain ⟨v, w, rfl, h1, h2⟩ := ops2 r
          cases h1 with
          | lst q rr => cases h2 with
            | lst q2 rr2 =>
              rw [hk]
              exact ⟨_, _, _, _, rfl, .inl ⟨.of (S1.fh _ _ q), .of (S1.fh _ _ q2), m2 F1 H1 _ l S1 (itz_ok (.of q) (.of q2) rr rr2)⟩⟩
        · cases ez
          obtain ⟨v, w, rfl, h1, h2⟩ := ops2 r
          cases h1 with
          | tup q rr => cases h2 with
            | tup q2 rr2 =>
              rw [hk]
              exact ⟨_, _, _, _, rfl, .inr ⟨sqT_h S1.fh q, sqT_h S1.fh q2, m2 F1 H1 _ l S1 (itzT_ok q q2 rr rr2)⟩⟩
        · cases ez
end
section
variable {ρ : Rho} {QL : R (List D) → Prop}
@[simp ↓] theorem w_zip {f : Rho → R (List Opd)} : wpR (sZip f ρ) QL = wpR (f ρ) (ThR (fun os ρ1 => R.of (zipO os) ρ1) QL) := wp_bind
@[simp] theorem zipO_l {xs ys : List D} : zipO [.val (.lst xs), .val (.lst ys)] = some (zipD xs ys) := rfl
@[simp] theorem zipO_t {xs ys : List D} : zipO [.val (.tup xs), .val (.tup ys)] = some (zipD xs ys) := rfl
end
end Nu
namespace Nu
open PySem PySem.Spec PyProof.Rows L2
section
variable {C : Cq} {Z Z' F F' H H' : Hp} {σ σ' : St} {ρ ρ' : Rho} {X : Cx} {K : PySem.W.Frag}
/-! ## x or y, x a text -/
def asT : D × Bool → Option (List Cp)
  | (.str x, false) => if x.length ≤ sizeLine then some x else none
  | _ => none
def sOrS (f g : Rho → R (D × Bool)) (ρ : Rho) : R (D × Bool) := (f ρ).bind fun a ρ1 => optR (asT a) fun x => if x = [] then g ρ1 else .ok (.str x, false) ρ1
theorem de_orS {a b : Expr} {rest : List Expr} {f g : Rho → R (D × Bool)} {pos : Pos} (hk : X.K = C.K) (h : PE X a (tE C f)) (h2 : PE X (.BoolOp .Or (b :: rest) pos) (tE C g)) : PE X (.BoolOp .Or (a :: b :: rest) pos) (tE C (sOrS f g)) :=
  PE.imp (pe_orT h h2) fun σ H Q ⟨Z, F, ρ, S, m⟩ => tG.step S m fun a ρ1 F1 H1 v l S1 r m1 => by
    obtain ⟨x, e, m2⟩ := at_opt m1
    obtain ⟨d, fr⟩ := a
    cases d with
    | str z =>
      cases fr with
      | true => cases e
      | false =>
        have e' : (if z.length ≤ sizeLine then some z else none) = some x := e
        split at e'
        · rename_i hz
          cases e'
          cases (show Rel C.K F1 v (.str x) from r)
          refine ⟨((toStr x).length : Int) != 0, ⟨by rw [toStr_length]; exact hz, rfl⟩, ?_⟩
          rw [toStr_length]
          by_cases h0 : x = []
          · subst h0
            rw [if_pos rfl] at m2
            exact ⟨Z, F1, ρ1, S1, m2⟩
          · rw [if_neg h0] at m2
            have hl : ((x.length : Int) != 0) = true := by
              have : x.length ≠ 0 := fun q => h0 (List.eq_nil_of_length_eq_zero q)
              simp; exact h0
            rw [hl, if_pos rfl]
            exact m2 F1 H1 _ (Evl.Ex.refl F1) S1 (Rel.str x)
        · cases e'
    | _ => cases e
end
section
variable {ρ : Rho} {QE : R (D × Bool) → Prop}
@[simp ↓] theorem w_orS {f g : Rho → R (D × Bool)} : wpR (sOrS f g ρ) QE = wpR (f ρ) (ThR (fun a ρ1 => optR (asT a) fun x => if x = [] then g ρ1 else .ok (.str x, false) ρ1) QE) := wp_bind
theorem asT_s {x : List Cp} (h : x.length ≤ PySem.sizeLine) : asT (.str x, false) = some x := by show (if _ then _ else _) = _; rw [if_pos h]
end
end Nu
namespace Law
open PySem Nu
abbrev ms__law_draw : List Bool := [true, false]
def sem__law_draw : Rho → Ss := sSeq (sSetIx 0 (sC (.int 2)) (sOp2 gAdd (sOpd (sOp2 gIx (oName 0) (sOpd (sC (.int 2))))) (sOpd (sC (.int 1))))) (sSeq (sIfS (sTest (sOp2 gGt (sOpd (sOp2 gIx (oName 0) (sOpd (sC (.int 0))))) (sOpd (sC (.int 0))))) (sSeq (sSet 2 (sOp2 gMod (sOpd (sFn gInt (sCons (sOpd (sOp2 gIx (oName 0) (sOpd (sC (.int 0))))) (sNil)))) (oName 1))) (sSeq (sSetIx 0 (sC (.int 0)) (sOp2 gDiv (sOpd (sOp2 gIx (oName 0) (sOpd (sC (.int 0))))) (oName 1))) (sRetV 2))) (sNx)) (sSeq (sSet 3 (sOp2 gAdd (sOpd (sFn gInt (sCons (sOpd (sOp2 gIx (oName 0) (sOpd (sC (.int 1))))) (sNil)))) (sOpd (sOp2 gMulT (sOpd (sC (.int 104723))) (sOpd (sOp2 gIx (oName 0) (sOpd (sC (.int 2))))))))) (sSeq (sSetIx 0 (sC (.int 1)) (sOp2 gMod (sOpd (sFn gInt (sCons (sOpd (sOp2 gAdd (sOpd (sOp2 gAdd (sOpd (sOp2 gMulT (oName 3) (sOpd (sOp2 gAdd (sOpd (sOp2 gMod (sOpd (sFn gInt (sCons (oName 3) (sNil)))) (sOpd (sC (.int 60013))))) (sOpd (sC (.int 40009))))))) (sOpd (sOp2 gMulT (sOpd (sC (.int 5))) (sOpd (sOp2 gIx (oName 0) (sOpd (sC (.int 2))))))))) (sOpd (sC (.int 11))))) (sNil)))) (sOpd (sC (.int 2147483629))))) (sRet (sOp2 gMod (sOpd (sOp2 gDiv (sOpd (sFn gInt (sCons (sOpd (sOp2 gIx (oName 0) (sOpd (sC (.int 1))))) (sNil)))) (sOpd (sC (.int 509))))) (oName 1))))))
def m__law_draw : Mir := bodyM ms__law_draw 4 sem__law_draw
abbrev ms__law_one : List Bool := [true, false]
def sem__law_one : Rho → Ss := sRet (sOp2 gIx (oName 1) (sOpd (sFnP 2 [] ms__law_draw m__law_draw (vN 0 (vS (sFn gLen (sCons (oName 1) (sNil))) (vNil))))))
def m__law_one : Mir := bodyM ms__law_one 2 sem__law_one
abbrev ms__law_signs : List Bool := [true]
def sem__law_signs : Rho → Ss := sSeq (sSet 1 (sFn gList (sCons (sOpd (sFnP 2 [] ms__law_one m__law_one (vN 0 (vS (sLst (sCons (sOpd (sC (.str (lit "ab")))) (sCons (sOpd (sC (.str (lit "ab")))) (sCons (sOpd (sC (.str (lit "abc")))) (sCons (sOpd (sC (.str (lit "xyz01")))) (sCons (sOpd (sC (.str (lit "abcdefghijklmnopqrstuvwxyz0123456789")))) (sNil))))))) (vNil))))) (sNil)))) (sSeq (sSet 2 (sC (.str (lit "")))) (sSeq (sPre [3] (sFor (.nm 3) (sItR rng1 (sCons (sOpd (sOp2 gAdd (sOpd (sC (.int 2))) (sOpd (sFn gMin (sCons (sOpd (sOp2 gDiv (sOpd (sFnP 2 [] ms__law_draw m__law_draw (vN 0 (vS (sC (.int 5)) (vNil))))) (sOpd (sC (.int 2))))) (sCons (sOpd (sOp2 gSub (sOpd (sFn gLen (sCons (oName 1) (sNil)))) (sOpd (sC (.int 2))))) (sNil))))))) (sNil))) (sWp [3] (sSet 2 (sOp2 gAdd (oName 2) (sOpd (sMut gPopI 1 (sCons (sOpd (sFnP 2 [] ms__law_draw m__law_draw (vN 0 (vS (sFn gLen (sCons (oName 1) (sNil))) (vNil))))) (sNil))))))))) (sRetV 2)))
def m__law_signs : Mir := bodyM ms__law_signs 4 sem__law_signs
abbrev ms_are_unlike_signs : List Bool := [false, false]
def sem_are_unlike_signs : Rho → Ss := sRet (sAndV (sFn gAll (sCons (sOpd (sLc [2] (.nm 2) (sIt (sOpd (sName 1))) (sYes) (sOp2 gIn (oName 2) (oName 0)))) (sNil))) (sOp2 gEq (sOpd (sLenSet (oName 1))) (sOpd (sFn gLen (sCons (oName 1) (sNil))))))
def m_are_unlike_signs : Mir := bodyM ms_are_unlike_signs 3 sem_are_unlike_signs
abbrev ms_is_alphabet : List Bool := [false]
def sem_is_alphabet : Rho → Ss := sRet (sAndV (sFn gIsi (sCons (oName 0) (sCons (sOpd (sC (.ty "str"))) (sNil)))) (sAndV (sChain gLe gLe (sOpd (sC (.int 2))) (sOpd (sFn gLen (sCons (oName 0) (sNil)))) (sOpd (sC (.int 4)))) (sFnP 2 [] ms_are_unlike_signs m_are_unlike_signs (vS (sC (.str (lit "abcdefghijklmnopqrstuvwxyz0123456789"))) (vS (sName 0) (vNil))))))
def m_is_alphabet : Mir := bodyM ms_is_alphabet 1 sem_is_alphabet
abbrev ms_check_signs : List Bool := [false]
def sem_check_signs : Rho → Ss := sIfS (sNot (sTest (sFnP 1 [] ms_is_alphabet m_is_alphabet (vS (sName 0) (vNil))))) (sNever) (sNx)
def m_check_signs : Mir := bodyM ms_check_signs 1 sem_check_signs
abbrev ms_is_pass_over : List Bool := [false, false]
def sem_is_pass_over : Rho → Ss := sRet (sAndV (sIsC cs_isi "Pass" (oName 1)) (sOp2 gEq (sOpd (sFld cs_signs "signs" (oName 1))) (oName 0)))
def m_is_pass_over : Mir := bodyM ms_is_pass_over 2 sem_is_pass_over
abbrev ms_check_passes : List Bool := [false, false]
def sem_check_passes : Rho → Ss := sSeq (sIfS (sOr (sNot (sTest (sFn gIsi (sCons (oName 1) (sCons (sOpd (sC (.ty "tuple"))) (sNil)))))) (sTest (sOp2 gGt (sOpd (sFn gLen (sCons (oName 1) (sNil)))) (sOpd (sC (.int 12)))))) (sNever) (sNx)) (sSeq (sSet 2 (sC (.int 1))) (sSeq (sPre [3, 4, 5] (sFor (.tp [.nm 3, .nm 4]) (sEnum (sCons (sOpd (sName 1)) (sNil))) (sWp [3, 4, 5] (sSeq (sIfS (sNot (sTest (sFnP 2 [] ms_is_pass_over m_is_pass_over (vS (sName 0) (vS (sName 4) (vNil)))))) (sNever) (sNx)) (sPre [5] (sFor (.nm 5) (sItR rng1 (sCons (sOpd (sOp2 gAdd (sOpd (sFld cs_back "back" (oName 4))) (sOpd (sFld cs_ahead "ahead" (oName 4))))) (sNil))) (sWp [5] (sSet 2 (sOp2 gMulT (oName 2) (sOpd (sFn gLen (sCons (oName 0) (sNil))))))))))))) (sIfS (sTest (sOp2 gGt (oName 2) (sOpd (sC (.int 256))))) (sNever) (sNx))))
def m_check_passes : Mir := bodyM ms_check_passes 6 sem_check_passes
abbrev ms_Chain___init__ : List Bool := [true, false, false]
def sem_Chain___init__ : Rho → Ss := sSeq (sDrop (sFnP 1 [] ms_check_signs m_check_signs (vS (sName 1) (vNil)))) (sSeq (sDrop (sFnP 2 [] ms_check_passes m_check_passes (vS (sName 1) (vS (sName 2) (vNil))))) (sSeq (sSetF cs_signs 0 "signs" (sName 1)) (sSeq (sSetF cs_passes 0 "passes" (sName 2)) (sSeq (sSetF cs_back 0 "back" (sFn gSum (sCons (sOpd (sLc [3] (.nm 3) (sIt (sOpd (sName 2))) (sYes) (sFld cs_back "back" (oName 3)))) (sNil)))) (sSeq (sSetF cs_ahead 0 "ahead" (sFn gSum (sCons (sOpd (sLc [3] (.nm 3) (sIt (sOpd (sName 2))) (sYes) (sFld cs_ahead "ahead" (oName 3)))) (sNil)))) (sSeq (sSetF cs_reach 0 "reach" (sOp2 gAdd (sOpd (sFld cs_back "back" (oName 0))) (sOpd (sFld cs_ahead "ahead" (oName 0))))) (sSeq (sSetF cs_form 0 "form" (sTup (sCons (sOpd (sName 1)) (sCons (sOpd (sFn gTuple (sCons (sOpd (sLc [3] (.nm 3) (sIt (sOpd (sName 2))) (sYes) (sFld cs_form "form" (oName 3)))) (sNil)))) (sNil))))) (sSetF cs_start 0 "start" (sOp2 gMulT (sOpd (sTup (sCons (sOpd (sC (.str (lit "")))) (sNil)))) (sOpd (sFn gLen (sCons (oName 2) (sNil)))))))))))))
def m_Chain___init__ : Mir := bodyM ms_Chain___init__ 4 sem_Chain___init__
abbrev ms_is_pattern : List Bool := [false, false, false]
def sem_is_pattern : Rho → Ss := sSeq (sIfS (sOr (sNot (sTest (sFn gIsi (sCons (oName 2) (sCons (sOpd (sC (.ty "tuple"))) (sNil)))))) (sTest (sOp2 gNe (sOpd (sFn gLen (sCons (oName 2) (sNil)))) (oName 1)))) (sRet (sC (.bl false))) (sNx)) (sRet (sFn gAll (sCons (sOpd (sLc [3] (.nm 3) (sIt (sOpd (sName 2))) (sYes) (sAndV (sFn gIsi (sCons (oName 3) (sCons (sOpd (sC (.ty "str"))) (sNil)))) (sFnP 2 [] ms_are_unlike_signs m_are_unlike_signs (vS (sName 0) (vS (sName 3) (vNil))))))) (sNil))))
def m_is_pattern : Mir := bodyM ms_is_pattern 4 sem_is_pattern
abbrev ms_is_over : List Bool := [false, false]
def sem_is_over : Rho → Ss := sRet (sAndV (sFn gIsi (sCons (oName 1) (sCons (sOpd (sC (.ty "str"))) (sNil)))) (sFn gAll (sCons (sOpd (sLc [2] (.nm 2) (sIt (sOpd (sName 1))) (sYes) (sOp2 gIn (oName 2) (oName 0)))) (sNil))))
def m_is_over : Mir := bodyM ms_is_over 3 sem_is_over
abbrev ms_is_sign : List Bool := [false, false]
def sem_is_sign : Rho → Ss := sRet (sAndV (sFnP 2 [] ms_is_over m_is_over (vS (sName 0) (vS (sName 1) (vNil)))) (sOp2 gEq (sOpd (sFn gLen (sCons (oName 1) (sNil)))) (sOpd (sC (.int 1)))))
def m_is_sign : Mir := bodyM ms_is_sign 2 sem_is_sign
abbrev ms_is_rule : List Bool := [false, false, false]
def sem_is_rule : Rho → Ss := sSeq (sIfS (sOr (sNot (sTest (sFn gIsi (sCons (oName 2) (sCons (sOpd (sC (.ty "tuple"))) (sNil)))))) (sTest (sOp2 gNe (sOpd (sFn gLen (sCons (oName 2) (sNil)))) (sOpd (sC (.int 2)))))) (sRet (sC (.bl false))) (sNx)) (sRet (sAndV (sFnP 3 [] ms_is_pattern m_is_pattern (vS (sName 0) (vS (sName 1) (vS (sOp2 gIx (oName 2) (sOpd (sC (.int 0)))) (vNil))))) (sFnP 2 [] ms_is_sign m_is_sign (vS (sName 0) (vS (sOp2 gIx (oName 2) (sOpd (sC (.int 1)))) (vNil))))))
def m_is_rule : Mir := bodyM ms_is_rule 3 sem_is_rule
abbrev ms_check_rules : List Bool := [false, false, false]
def sem_check_rules : Rho → Ss := sSeq (sIfS (sOr (sNot (sTest (sFn gIsi (sCons (oName 2) (sCons (sOpd (sC (.ty "tuple"))) (sNil)))))) (sTest (sOp2 gGt (sOpd (sFn gLen (sCons (oName 2) (sNil)))) (sOpd (sC (.int 12)))))) (sNever) (sNx)) (sPre [3, 4] (sFor (.tp [.nm 3, .nm 4]) (sEnum (sCons (sOpd (sName 2)) (sNil))) (sWp [3, 4] (sIfS (sNot (sTest (sFnP 3 [] ms_is_rule m_is_rule (vS (sName 0) (vS (sName 1) (vS (sName 4) (vNil))))))) (sNever) (sNx)))))
def m_check_rules : Mir := bodyM ms_check_rules 5 sem_check_rules
abbrev ms_is_integer : List Bool := [false]
def sem_is_integer : Rho → Ss := sRet (sAndV (sFn gIsi (sCons (oName 0) (sCons (sOpd (sC (.ty "int"))) (sNil)))) (sNotV (sFn gIsi (sCons (oName 0) (sCons (sOpd (sC (.ty "bool"))) (sNil))))))
def m_is_integer : Mir := bodyM ms_is_integer 1 sem_is_integer
abbrev ms_is_number : List Bool := [false, false]
def sem_is_number : Rho → Ss := sRet (sAndV (sFnP 1 [] ms_is_integer m_is_integer (vS (sName 0) (vNil))) (sAndV (sOp2 gGe (oName 0) (sOpd (sC (.int 0)))) (sOrV (sOp2 gIs (oName 1) (sOpd (sC .non))) (sOp2 gLe (oName 0) (oName 1)))))
def m_is_number : Mir := bodyM ms_is_number 2 sem_is_number
abbrev ms_Pass___init__ : List Bool := [true, false, false, false, false, false]
def sem_Pass___init__ : Rho → Ss := sSeq (sDrop (sFnP 1 [] ms_check_signs m_check_signs (vS (sName 1) (vNil)))) (sSeq (sPre [6] (sFor (.nm 6) (sIt (sOpd (sTup (sCons (sOpd (sName 4)) (sCons (sOpd (sName 5)) (sNil)))))) (sWp [6] (sIfS (sNot (sTest (sFnP 2 [] ms_is_number m_is_number (vS (sName 6) (vS (sC (.int 2)) (vNil)))))) (sNever) (sNx))))) (sSeq (sDrop (sFnP 3 [] ms_check_rules m_check_rules (vS (sName 1) (vS (sOp2 gAdd (sOpd (sOp2 gAdd (oName 4) (sOpd (sC (.int 1))))) (oName 5)) (vS (sName 2) (vNil)))))) (sSeq (sIfS (sAnd (sTest (sOp2 gNot (oName 3) (sOpd (sC .non)))) (sNot (sTest (sFnP 2 [] ms_is_sign m_is_sign (vS (sName 1) (vS (sName 3) (vNil))))))) (sNever) (sNx)) (sSeq (sSetF cs_signs 0 "signs" (sName 1)) (sSeq (sSetF cs_rules 0 "rules" (sName 2)) (sSeq (sSetF cs_edge 0 "edge" (sName 3)) (sSeq (sSetF cs_back 0 "back" (sName 4)) (sSeq (sSetF cs_ahead 0 "ahead" (sName 5)) (sSetF cs_form 0 "form" (sTup (sCons (sOpd (sName 1)) (sCons (sOpd (sName 2)) (sCons (sOpd (sName 3)) (sCons (sOpd (sName 4)) (sCons (sOpd (sName 5)) (sNil))))))))))))))))
def m_Pass___init__ : Mir := bodyM ms_Pass___init__ 7 sem_Pass___init__
abbrev ms__law_pass : List Bool := [false]
def sem__law_pass : Rho → Ss := sRet (sMkK "Pass" 3 2 [.inl 0, .inl 1] ms_Pass___init__.tail m_Pass___init__ (vS (sOp2 gIx (oName 0) (sOpd (sC (.int 0)))) (vS (sOp2 gIx (oName 0) (sOpd (sC (.int 1)))) (vS (sOp2 gIx (oName 0) (sOpd (sC (.int 2)))) (vNil)))) (sCons (sOpd (sOp2 gIx (oName 0) (sOpd (sC (.int 3))))) (sCons (sOpd (sOp2 gIx (oName 0) (sOpd (sC (.int 4))))) (sNil))))
def m__law_pass : Mir := bodyM ms__law_pass 1 sem__law_pass
abbrev ms__law_chain_of : List Bool := [false, false]
def sem__law_chain_of : Rho → Ss := sRet (sMkP "Chain" 2 [] ms_Chain___init__.tail m_Chain___init__ (vS (sName 0) (vS (sFn gTuple (sCons (sOpd (sLc [2] (.nm 2) (sIt (sOpd (sName 1))) (sYes) (sFnP 1 [] ms__law_pass m__law_pass (vS (sName 2) (vNil))))) (sNil))) (vNil))))
def m__law_chain_of : Mir := bodyM ms__law_chain_of 3 sem__law_chain_of
abbrev ms__law_row : List Bool := [true, false, false]
def sem__law_row : Rho → Ss := sRet (sJoin (sOpd (sC (.str (lit "")))) (sOpd (sLc [3] (.nm 3) (sItR rng1 (sCons (sOpd (sFnP 2 [] ms__law_draw m__law_draw (vN 0 (vS (sOp2 gAdd (oName 2) (sOpd (sC (.int 1)))) (vNil))))) (sNil))) (sYes) (sFnP 2 [] ms__law_one m__law_one (vN 0 (vS (sName 1) (vNil)))))))
def m__law_row : Mir := bodyM ms__law_row 4 sem__law_row
abbrev ms__law_part : List Bool := [true, false]
def sem__law_part : Rho → Ss := sSeq (sAsg (.tp [.nm 2, .nm 3]) (sOpd (sTup (sCons (sOpd (sFnP 2 [] ms__law_draw m__law_draw (vN 0 (vS (sC (.int 5)) (vNil))))) (sCons (sOpd (sFnP 2 [] ms__law_one m__law_one (vN 0 (vS (sName 1) (vNil))))) (sNil)))))) (sSeq (sIfS (sTest (sOp2 gLt (oName 2) (sOpd (sC (.int 2))))) (sRet (sC (.str (lit "")))) (sNx)) (sSeq (sIfS (sTest (sOp2 gLt (oName 2) (sOpd (sC (.int 4))))) (sRetV 3) (sNx)) (sRet (sOp2 gAdd (oName 3) (sOpd (sJoin (sOpd (sC (.str (lit "")))) (sOpd (sLc [4] (.nm 4) (sIt (sOpd (sName 1))) (sAnd (sTest (sOp2 gNe (oName 4) (oName 3))) (sTest (sOp2 gEq (sOpd (sFnP 2 [] ms__law_draw m__law_draw (vN 0 (vS (sC (.int 2)) (vNil))))) (sOpd (sC (.int 0)))))) (sName 4)))))))))
def m__law_part : Mir := bodyM ms__law_part 5 sem__law_part
abbrev ms__law_form : List Bool := [true, false, false]
def sem__law_form : Rho → Ss := sSeq (sParV 3 4 (vE (sFnP 2 [] ms__law_draw m__law_draw (vN 0 (vS (sOp2 gAdd (oName 2) (sOpd (sC (.int 1)))) (vNil)))) (vE (sFnP 2 [] ms__law_draw m__law_draw (vN 0 (vS (sOp2 gAdd (oName 2) (sOpd (sC (.int 1)))) (vNil)))) (vNil)))) (sSeq (sSet 5 (sLst (sNil))) (sSeq (sPre [6, 7] (sFor (.nm 6) (sItR rng1 (sCons (sOpd (sOp2 gAdd (sOpd (sC (.int 1))) (sOpd (sFnP 2 [] ms__law_draw m__law_draw (vN 0 (vS (sC (.int 5)) (vNil))))))) (sNil))) (sWp [6, 7] (sSeq (sSet 7 (sLc [8] (.nm 8) (sItR rng1 (sCons (sOpd (sOp2 gAdd (sOpd (sOp2 gAdd (oName 3) (sOpd (sC (.int 1))))) (oName 4))) (sNil))) (sYes) (sFnP 2 [] ms__law_part m__law_part (vN 0 (vS (sName 1) (vNil)))))) (sDrop (sMut gApp 5 (sCons (sOpd (sTup (sCons (sOpd (sFn gTuple (sCons (oName 7) (sNil)))) (sCons (sOpd (sFnP 2 [] ms__law_one m__law_one (vN 0 (vS (sName 1) (vNil))))) (sNil))))) (sNil)))))))) (sRet (sTup (sCons (sOpd (sName 1)) (sCons (sOpd (sFn gTuple (sCons (oName 5) (sNil)))) (sCons (sOpd (sFnP 2 [] ms__law_one m__law_one (vN 0 (vS (sOp2 gAdd (sOpd (sLst (sCons (sOpd (sC .non)) (sCons (sOpd (sC .non)) (sNil))))) (sOpd (sFn gList (sCons (oName 1) (sNil))))) (vNil))))) (sCons (sOpd (sName 3)) (sCons (sOpd (sName 4)) (sNil))))))))))
def m__law_form : Mir := bodyM ms__law_form 9 sem__law_form
abbrev ms__law_parted : List Bool := [false]
def sem__law_parted : Rho → Ss := sSeq (sSet 1 (sLst (sNil))) (sSeq (sPre [2, 3, 4, 5, 6, 7, 8] (sFor (.tp [.nm 2, .nm 3]) (sIt (sOpd (sName 0))) (sWp [2, 3, 4, 5, 6, 7, 8] (sSeq (sSet 4 (sLst (sCons (sOpd (sTup (sNil))) (sNil)))) (sSeq (sPre [5, 6, 7, 8] (sFor (.nm 5) (sIt (sOpd (sName 2))) (sWp [5, 6, 7, 8] (sSeq (sParV 6 7 (vE (sLst (sCons (sOpd (sName 5)) (sNil))) (vE (sLst (sNil)) (vNil)))) (sSeq (sIfS (sAnd (sTest (sOp2 gGt (sOpd (sFn gLen (sCons (oName 5) (sNil)))) (sOpd (sC (.int 1))))) (sTest (sOp2 gLt (sOpd (sOp2 gMulT (sOpd (sFn gLen (sCons (oName 4) (sNil)))) (sOpd (sFn gLen (sCons (oName 5) (sNil)))))) (sOpd (sC (.int 5)))))) (sSet 6 (sFn gList (sCons (oName 5) (sNil)))) (sNx)) (sSeq (sPre [8] (sFor (.nm 8) (sIt (sOpd (sName 4))) (sWp [8] (sSet 7 (sOp2 gAdd (oName 7) (sOpd (sLc [9] (.nm 9) (sIt (sOpd (sName 6))) (sYes) (sOp2 gAdd (oName 8) (sOpd (sTup (sCons (sOpd (sName 9)) (sNil)))))))))))) (sSet 4 (sName 7)))))))) (sSet 1 (sOp2 gAdd (oName 1) (sOpd (sLc [8] (.nm 8) (sIt (sOpd (sName 4))) (sYes) (sTup (sCons (sOpd (sName 8)) (sCons (sOpd (sName 3)) (sNil))))))))))))) (sRet (sFn gTuple (sCons (oName 1) (sNil)))))
def m__law_parted : Mir := bodyM ms__law_parted 10 sem__law_parted
abbrev ms__law_otherwise : List Bool := [true, false]
def sem__law_otherwise : Rho → Ss := sSeq (sAsg (.tp [.nm 2, .nm 3, .nm 4, .nm 5, .nm 6]) (sOpd (sName 1))) (sSeq (sSet 7 (sFnP 2 [] ms__law_draw m__law_draw (vN 0 (vS (sC (.int 4)) (vNil))))) (sSeq (sIfS (sTest (sOp2 gEq (oName 7) (sOpd (sC (.int 0))))) (sSeq (sSet 8 (sFn gTuple (sCons (sOpd (sLc [12] (.nm 12) (sIt (sOpd (sName 3))) (sYes) (sTup (sCons (sOpd (sOp2 gIx (oName 12) (sOpd (sC (.int 0))))) (sCons (sOpd (sFnP 2 [] ms__law_one m__law_one (vN 0 (vS (sName 2) (vNil))))) (sNil)))))) (sNil)))) (sRet (sTup (sCons (sOpd (sName 2)) (sCons (sOpd (sSl gSl (sOpd (sOp2 gAdd (oName 3) (oName 8))) (sNoP) (sP (sC (.int 12))))) (sCons (sOpd (sName 4)) (sCons (sOpd (sName 5)) (sCons (sOpd (sName 6)) (sNil))))))))) (sNx)) (sSeq (sIfS (sTest (sOp2 gEq (oName 7) (sOpd (sC (.int 1))))) (sSeq (sSet 9 (sFnP 1 [] ms__law_parted m__law_parted (vS (sName 3) (vNil)))) (sRet (sTup (sCons (sOpd (sName 2)) (sCons (sOpd (sIf (sTest (sOp2 gLt (sOpd (sFn gLen (sCons (oName 9) (sNil)))) (sOpd (sC (.int 13))))) (sName 9) (sName 3))) (sCons (sOpd (sName 4)) (sCons (sOpd (sName 5)) (sCons (sOpd (sName 6)) (sNil))))))))) (sNx)) (sSeq (sIfS (sTest (sOp2 gEq (oName 7) (sOpd (sC (.int 2))))) (sSeq (sSet 10 (sFn gTuple (sCons (sOpd (sLc [13] (.nm 13) (sIt (sOpd (sName 2))) (sYes) (sOp2 gAdd (sOpd (sOp2 gAdd (sOpd (sOp2 gMulT (sOpd (sTup (sCons (sOpd (sC (.str (lit "")))) (sNil)))) (oName 5))) (sOpd (sTup (sCons (sOpd (sName 13)) (sNil)))))) (sOpd (sOp2 gMulT (sOpd (sTup (sCons (sOpd (sC (.str (lit "")))) (sNil)))) (oName 6)))))) (sNil)))) (sRet (sTup (sCons (sOpd (sName 2)) (sCons (sOpd (sOp2 gAdd (oName 3) (sOpd (sFn gTuple (sCons (sOpd (sLc [14] (.nm 14) (sIt (sOpd (sName 10))) (sYes) (sTup (sCons (sOpd (sName 14)) (sCons (sOpd (sOp2 gIx (oName 14) (oName 5))) (sNil)))))) (sNil)))))) (sCons (sOpd (sName 4)) (sCons (sOpd (sName 5)) (sCons (sOpd (sName 6)) (sNil))))))))) (sNx)) (sSeq (sSet 11 (sFn gTuple (sCons (sOpd (sLc [14, 13] (.tp [.nm 14, .nm 13]) (sIt (sOpd (sName 3))) (sYes) (sTup (sCons (sOpd (sFn gTuple (sCons (sOpd (sLc [15] (.nm 15) (sIt (sOpd (sName 14))) (sYes) (sOrS (sName 15) (sName 2)))) (sNil)))) (sCons (sOpd (sName 13)) (sNil)))))) (sNil)))) (sRet (sTup (sCons (sOpd (sName 2)) (sCons (sOpd (sName 11)) (sCons (sOpd (sName 4)) (sCons (sOpd (sName 5)) (sCons (sOpd (sName 6)) (sNil)))))))))))))
def m__law_otherwise : Mir := bodyM ms__law_otherwise 16 sem__law_otherwise
abbrev ms_Chain___eq__ : List Bool := [false, false]
def sem_Chain___eq__ : Rho → Ss := sRet (sAndV (sIsC cs_isi "Chain" (oName 1)) (sOp2 gEq (sOpd (sFld cs_form "form" (oName 0))) (sOpd (sFld cs_form "form" (oName 1)))))
def m_Chain___eq__ : Mir := bodyM ms_Chain___eq__ 2 sem_Chain___eq__
def tab_eq_2_Chain (c : Str) : Option MI := if c = "Chain" then some ⟨[], ms_Chain___eq__, m_Chain___eq__⟩ else none
abbrev ms__law_longer : List Bool := [false, false]
def sem__law_longer : Rho → Ss := sSeq (sSet 2 (sLst (sNil))) (sSeq (sPre [3] (sFor (.nm 3) (sIt (sOpd (sName 0))) (sWp [3] (sSet 2 (sOp2 gAdd (oName 2) (sOpd (sLc [4] (.nm 4) (sIt (sOpd (sName 1))) (sYes) (sOp2 gAdd (oName 3) (oName 4))))))))) (sRetV 2))
def m__law_longer : Mir := bodyM ms__law_longer 5 sem__law_longer
abbrev ms__law_all : List Bool := [false, false]
def sem__law_all : Rho → Ss := sSeq (sParV 2 3 (vE (sLst (sCons (sOpd (sC (.str (lit "")))) (sNil))) (vE (sLst (sCons (sOpd (sC (.str (lit "")))) (sNil))) (vNil)))) (sSeq (sPre [4] (sFor (.nm 4) (sItR rng1 (sCons (sOpd (sName 1)) (sNil))) (sWp [4] (sSeq (sSet 2 (sFnP 2 [] ms__law_longer m__law_longer (vS (sName 2) (vS (sName 0) (vNil))))) (sSet 3 (sOp2 gAdd (oName 3) (oName 2))))))) (sRetV 3))
def m__law_all : Mir := bodyM ms__law_all 5 sem__law_all
abbrev ms__law_give : List Bool := [false, false]
def sem__law_give : Rho → Ss := sSeq (sPre [2, 3] (sFor (.tp [.nm 2, .nm 3]) (sIt (sOpd (sOp2 gIx (oName 0) (sOpd (sC (.int 1)))))) (sWp [2, 3] (sIfS (sTest (sFn gAll (sCons (sOpd (sLc [4, 5] (.tp [.nm 4, .nm 5]) (sEnum (sCons (sOpd (sName 2)) (sNil))) (sYes) (sOrV (sOp2 gEq (oName 5) (sOpd (sC (.str (lit ""))))) (sOp2 gIn (sOpd (sOp2 gIx (oName 1) (oName 4))) (oName 5))))) (sNil)))) (sRetV 3) (sNx))))) (sRet (sOp2 gIx (oName 1) (sOpd (sOp2 gIx (oName 0) (sOpd (sC (.int 3)))))))
def m__law_give : Mir := bodyM ms__law_give 6 sem__law_give
abbrev ms__law_window : List Bool := [false, false, false]
def sem__law_window : Rho → Ss := sSeq (sSet 3 (sC (.str (lit "")))) (sSeq (sPre [4] (sFor (.nm 4) (sItR rng2 (sCons (sOpd (sOp2 gSub (oName 2) (sOpd (sOp2 gIx (oName 0) (sOpd (sC (.int 3))))))) (sCons (sOpd (sOp2 gAdd (sOpd (sOp2 gAdd (oName 2) (sOpd (sOp2 gIx (oName 0) (sOpd (sC (.int 4))))))) (sOpd (sC (.int 1))))) (sNil)))) (sWp [4] (sIfS (sTest (sChain gLe gLt (sOpd (sC (.int 0))) (oName 4) (sOpd (sFn gLen (sCons (oName 1) (sNil)))))) (sSet 3 (sOp2 gAdd (oName 3) (sOpd (sOp2 gIx (oName 1) (oName 4))))) (sIfS (sTest (sOp2 gNot (sOpd (sOp2 gIx (oName 0) (sOpd (sC (.int 2))))) (sOpd (sC .non)))) (sSet 3 (sOp2 gAdd (oName 3) (sOpd (sOp2 gIx (oName 0) (sOpd (sC (.int 2))))))) (sSet 3 (sOp2 gAdd (oName 3) (sOpd (sIf (sTest (sOp2 gLt (oName 4) (sOpd (sC (.int 0))))) (sOp2 gIx (oName 1) (sOpd (sC (.int 0)))) (sOp2 gIx (oName 1) (sOpd (sNeg (sC (.int 1)))))))))))))) (sRetV 3))
def m__law_window : Mir := bodyM ms__law_window 5 sem__law_window
abbrev ms__law_out : List Bool := [false, false]
def sem__law_out : Rho → Ss := sSeq (sPre [2] (sFor (.nm 2) (sIt (sOpd (sName 0))) (sWp [2] (sSet 1 (sJoin (sOpd (sC (.str (lit "")))) (sOpd (sLc [3] (.nm 3) (sItR rng1 (sCons (sOpd (sFn gLen (sCons (oName 1) (sNil)))) (sNil))) (sYes) (sFnP 2 [] ms__law_give m__law_give (vS (sName 2) (vS (sFnP 3 [] ms__law_window m__law_window (vS (sName 2) (vS (sName 1) (vS (sName 3) (vNil))))) (vNil))))))))))) (sRetV 1)
def m__law_out : Mir := bodyM ms__law_out 4 sem__law_out
abbrev ms_check_row : List Bool := [false, false]
def sem_check_row : Rho → Ss := sIfS (sNot (sTest (sFnP 2 [] ms_is_over m_is_over (vS (sName 0) (vS (sName 1) (vNil)))))) (sNever) (sNx)
def m_check_row : Mir := bodyM ms_check_row 2 sem_check_row
abbrev ms_lets_in : List Bool := [false, false]
def sem_lets_in : Rho → Ss := sRet (sFn gAll (sCons (sOpd (sLc [2, 3] (.tp [.nm 2, .nm 3]) (sEnum (sCons (sOpd (sName 0)) (sNil))) (sYes) (sOrV (sOp2 gEq (oName 3) (sOpd (sC (.str (lit ""))))) (sOp2 gIn (sOpd (sOp2 gIx (oName 1) (oName 2))) (oName 3))))) (sNil)))
def m_lets_in : Mir := bodyM ms_lets_in 4 sem_lets_in
abbrev ms_Pass_told_for : List Bool := [false, false]
def sem_Pass_told_for : Rho → Ss := sSeq (sPre [2, 3] (sFor (.tp [.nm 2, .nm 3]) (sIt (sOpd (sFld cs_rules "rules" (oName 0)))) (sWp [2, 3] (sIfS (sTest (sFnP 2 [] ms_lets_in m_lets_in (vS (sName 2) (vS (sName 1) (vNil))))) (sRetV 3) (sNx))))) (sRet (sOp2 gIx (oName 1) (sOpd (sFld cs_back "back" (oName 0)))))
def m_Pass_told_for : Mir := bodyM ms_Pass_told_for 4 sem_Pass_told_for
def tab_told_for_2 (c : Str) : Option MI := if c = "Pass" then some ⟨[], ms_Pass_told_for, m_Pass_told_for⟩ else none
abbrev ms_Pass_along : List Bool := [false, false]
def sem_Pass_along : Rho → Ss := sSeq (sSet 2 (sOp2 gAdd (sOpd (sOp2 gAdd (sOpd (sFld cs_back "back" (oName 0))) (sOpd (sC (.int 1))))) (sOpd (sFld cs_ahead "ahead" (oName 0))))) (sRet (sJoin (sOpd (sC (.str (lit "")))) (sOpd (sLc [3] (.nm 3) (sItR rng1 (sCons (sOpd (sOp2 gSub (sOpd (sOp2 gAdd (sOpd (sFn gLen (sCons (oName 1) (sNil)))) (sOpd (sC (.int 1))))) (oName 2))) (sNil))) (sYes) (sMeth tab_told_for_2 "told_for" 1 (sOpd (sName 0)) (vS (sSl gSl (oName 1) (sP (sName 3)) (sP (sOp2 gAdd (oName 3) (oName 2)))) (vNil)))))))
def m_Pass_along : Mir := bodyM ms_Pass_along 4 sem_Pass_along
def tab_along_2 (c : Str) : Option MI := if c = "Pass" then some ⟨[], ms_Pass_along, m_Pass_along⟩ else none
abbrev ms_filled_out : List Bool := [false, false, false, false]
def sem_filled_out : Rho → Ss := sSeq (sIfS (sTest (sOp2 gEq (oName 0) (sOpd (sC (.str (lit "")))))) (sRet (sC (.str (lit "")))) (sNx)) (sSeq (sIfS (sTest (sOp2 gIs (oName 1) (sOpd (sC .non)))) (sRet (sOp2 gAdd (sOpd (sOp2 gAdd (sOpd (sOp2 gMulT (sOpd (sOp2 gIx (oName 0) (sOpd (sC (.int 0))))) (oName 2))) (oName 0))) (sOpd (sOp2 gMulT (sOpd (sOp2 gIx (oName 0) (sOpd (sNeg (sC (.int 1)))))) (oName 3))))) (sNx)) (sRet (sOp2 gAdd (sOpd (sOp2 gAdd (sOpd (sOp2 gMulT (oName 1) (oName 2))) (oName 0))) (sOpd (sOp2 gMulT (oName 1) (oName 3))))))
def m_filled_out : Mir := bodyM ms_filled_out 4 sem_filled_out
abbrev ms_Pass___call__ : List Bool := [false, false]
def sem_Pass___call__ : Rho → Ss := sSeq (sDrop (sFnP 2 [] ms_check_row m_check_row (vS (sFld cs_signs "signs" (oName 0)) (vS (sName 1) (vNil))))) (sRet (sMeth tab_along_2 "along" 1 (sOpd (sName 0)) (vS (sFnP 4 [] ms_filled_out m_filled_out (vS (sName 1) (vS (sFld cs_edge "edge" (oName 0)) (vS (sFld cs_back "back" (oName 0)) (vS (sFld cs_ahead "ahead" (oName 0)) (vNil)))))) (vNil))))
def m_Pass___call__ : Mir := bodyM ms_Pass___call__ 2 sem_Pass___call__
def tab_CALL_2 (c : Str) : Option MI := if c = "Pass" then some ⟨[], ms_Pass___call__, m_Pass___call__⟩ else none
abbrev ms__law_round : List Bool := [false, false]
def sem__law_round : Rho → Ss := sSeq (sPre [2, 3, 4, 5] (sFor (.nm 2) (sIt (sOpd (sName 0))) (sWp [2, 3, 4, 5] (sSeq (sSet 3 (sC (.str (lit "")))) (sSeq (sPre [4, 5] (sFor (.nm 4) (sItR rng1 (sCons (sOpd (sFn gLen (sCons (oName 1) (sNil)))) (sNil))) (sWp [4, 5] (sSeq (sSet 5 (sRgL (sOp2 gSub (oName 4) (sOpd (sOp2 gIx (oName 2) (sOpd (sC (.int 3)))))) (sOp2 gAdd (sOpd (sOp2 gAdd (oName 4) (sOpd (sOp2 gIx (oName 2) (sOpd (sC (.int 4))))))) (sOpd (sC (.int 1)))))) (sSet 3 (sOp2 gAdd (oName 3) (sOpd (sFnP 2 [] ms__law_give m__law_give (vS (sName 2) (vS (sJoin (sOpd (sC (.str (lit "")))) (sOpd (sLc [6] (.nm 6) (sIt (sOpd (sName 5))) (sYes) (sOp2 gIx (oName 1) (sOpd (sOp2 gMod (sOpd (sFn gInt (sCons (oName 6) (sNil)))) (sOpd (sFn gLen (sCons (oName 1) (sNil)))))))))) (vNil))))))))))) (sSet 1 (sName 3))))))) (sRetV 1)
def m__law_round : Mir := bodyM ms__law_round 7 sem__law_round
abbrev ms_Chain___call__ : List Bool := [false, false]
def sem_Chain___call__ : Rho → Ss := sSeq (sDrop (sFnP 2 [] ms_check_row m_check_row (vS (sFld cs_signs "signs" (oName 0)) (vS (sName 1) (vNil))))) (sSeq (sPre [2] (sFor (.nm 2) (sIt (sOpd (sFld cs_passes "passes" (oName 0)))) (sWp [2] (sSet 1 (sInst tab_CALL_2 1 (sOpd (sName 2)) (vS (sName 1) (vNil))))))) (sRetV 1))
def m_Chain___call__ : Mir := bodyM ms_Chain___call__ 3 sem_Chain___call__
def tab_CALL_2_Chain (c : Str) : Option MI := if c = "Chain" then some ⟨[], ms_Chain___call__, m_Chain___call__⟩ else none
abbrev ms_next_memory : List Bool := [false, false, false]
def sem_next_memory : Rho → Ss := sSeq (sPar3 3 4 5 (sCons (sOpd (sOp2 gAdd (sOpd (sFld cs_back "back" (oName 0))) (sOpd (sFld cs_ahead "ahead" (oName 0))))) (sCons (sOpd (sOp2 gAdd (oName 1) (oName 2))) (sCons (sOpd (sC (.str (lit "")))) (sNil))))) (sSeq (sIfS (sTest (sOp2 gGe (sOpd (sFn gLen (sCons (oName 1) (sNil)))) (sOpd (sFld cs_ahead "ahead" (oName 0))))) (sSeq (sSet 6 (sOp2 gSub (sOpd (sOp2 gSub (sOpd (sFn gLen (sCons (oName 1) (sNil)))) (sOpd (sFld cs_ahead "ahead" (oName 0))))) (sOpd (sFld cs_back "back" (oName 0))))) (sSeq (sSet 7 (sFn gMax (sCons (sOpd (sC (.int 0))) (sCons (sOpd (sNeg (sName 6))) (sNil))))) (sSeq (sSet 8 (sSl gSl (sOpd (sFnP 4 [] ms_filled_out m_filled_out (vS (sName 4) (vS (sFld cs_edge "edge" (oName 0)) (vS (sName 7) (vS (sC (.int 0)) (vNil))))))) (sNoP) (sP (sName 7)))) (sSet 5 (sMeth tab_told_for_2 "told_for" 1 (sOpd (sName 0)) (vS (sOp2 gAdd (oName 8) (sOpd (sSl gSl (oName 4) (sP (sFn gMax (sCons (sOpd (sC (.int 0))) (sCons (oName 6) (sNil))))) (sNoP)))) (vNil))))))) (sNx)) (sRet (sTup (sCons (sOpd (sSl gSl (oName 4) (sP (sFn gMax (sCons (sOpd (sC (.int 0))) (sCons (sOpd (sOp2 gSub (sOpd (sFn gLen (sCons (oName 4) (sNil)))) (oName 3))) (sNil))))) (sNoP))) (sCons (sOpd (sName 5)) (sNil))))))
def m_next_memory : Mir := bodyM ms_next_memory 9 sem_next_memory
abbrev ms_Chain_step : List Bool := [false, false, false]
def sem_Chain_step : Rho → Ss := sSeq (sSet 3 (sFn gList (sCons (oName 1) (sNil)))) (sSeq (sPre [4, 5] (sFor (.tp [.nm 4, .nm 5]) (sEnum (sCons (sOpd (sFld cs_passes "passes" (oName 0))) (sNil))) (sWp [4, 5] (sIfS (sTest (sOp2 gNe (oName 2) (sOpd (sC (.str (lit "")))))) (sAsgX 3 2 (sName 4) (sOpd (sFnP 3 [] ms_next_memory m_next_memory (vS (sName 5) (vS (sOp2 gIx (oName 1) (oName 4)) (vS (sName 2) (vNil))))))) (sNx))))) (sRet (sTup (sCons (sOpd (sFn gTuple (sCons (oName 3) (sNil)))) (sCons (sOpd (sName 2)) (sNil))))))
def m_Chain_step : Mir := bodyM ms_Chain_step 6 sem_Chain_step
def tab_step_3_Chain (c : Str) : Option MI := if c = "Chain" then some ⟨[], ms_Chain_step, m_Chain_step⟩ else none
abbrev ms_check_ring : List Bool := [false, false]
def sem_check_ring : Rho → Ss := sIfS (sOr (sNot (sTest (sFnP 2 [] ms_is_over m_is_over (vS (sName 0) (vS (sName 1) (vNil)))))) (sTest (sOp2 gEq (oName 1) (sOpd (sC (.str (lit ""))))))) (sNever) (sNx)
def m_check_ring : Mir := bodyM ms_check_ring 2 sem_check_ring
abbrev ms_Pass_ring : List Bool := [false, false]
def sem_Pass_ring : Rho → Ss := sSeq (sDrop (sFnP 2 [] ms_check_ring m_check_ring (vS (sFld cs_signs "signs" (oName 0)) (vS (sName 1) (vNil))))) (sSeq (sSet 2 (sOp2 gMulT (oName 1) (sOpd (sOp2 gAdd (sOpd (sOp2 gMulT (sOpd (sC (.int 2))) (sOpd (sC (.int 2))))) (sOpd (sC (.int 1))))))) (sSeq (sSet 3 (sOp2 gMulT (sOpd (sC (.int 2))) (sOpd (sFn gLen (sCons (oName 1) (sNil)))))) (sRet (sMeth tab_along_2 "along" 1 (sOpd (sName 0)) (vS (sSl gSl (oName 2) (sP (sOp2 gSub (oName 3) (sOpd (sFld cs_back "back" (oName 0))))) (sP (sOp2 gAdd (sOpd (sOp2 gAdd (oName 3) (sOpd (sFn gLen (sCons (oName 1) (sNil)))))) (sOpd (sFld cs_ahead "ahead" (oName 0)))))) (vNil))))))
def m_Pass_ring : Mir := bodyM ms_Pass_ring 4 sem_Pass_ring
def tab_ring_2 (c : Str) : Option MI := if c = "Pass" then some ⟨[], ms_Pass_ring, m_Pass_ring⟩ else none
abbrev ms_Chain_ring : List Bool := [false, false]
def sem_Chain_ring : Rho → Ss := sSeq (sDrop (sFnP 2 [] ms_check_ring m_check_ring (vS (sFld cs_signs "signs" (oName 0)) (vS (sName 1) (vNil))))) (sSeq (sPre [2] (sFor (.nm 2) (sIt (sOpd (sFld cs_passes "passes" (oName 0)))) (sWp [2] (sSet 1 (sMeth tab_ring_2 "ring" 1 (sOpd (sName 2)) (vS (sName 1) (vNil))))))) (sRetV 1))
def m_Chain_ring : Mir := bodyM ms_Chain_ring 3 sem_Chain_ring
def tab_ring_2_Chain (c : Str) : Option MI := if c = "Chain" then some ⟨[], ms_Chain_ring, m_Chain_ring⟩ else none
abbrev ms__law_right : List Bool := [true]
def sem__law_right : Rho → Ss := sSeq (sSet 1 (sFnP 1 [] ms__law_signs m__law_signs (vN 0 (vNil)))) (sSeq (sSet 2 (sLst (sCons (sOpd (sFnP 3 [] ms__law_form m__law_form (vN 0 (vS (sName 1) (vS (sC (.int 1)) (vNil)))))) (sCons (sOpd (sFnP 3 [] ms__law_form m__law_form (vN 0 (vS (sName 1) (vS (sC (.int 0)) (vNil)))))) (sNil))))) (sSeq (sSet 3 (sLc [15] (.nm 15) (sIt (sOpd (sName 2))) (sYes) (sFnP 2 [] ms__law_otherwise m__law_otherwise (vN 0 (vS (sName 15) (vNil)))))) (sSeq (sSet 4 (sLst (sCons (sOpd (sFnP 2 [] ms__law_chain_of m__law_chain_of (vS (sName 1) (vS (sName 2) (vNil))))) (sCons (sOpd (sFnP 2 [] ms__law_chain_of m__law_chain_of (vS (sName 1) (vS (sName 3) (vNil))))) (sNil))))) (sSeq (sIfS (sTest (sOp2 gNe (sOpd (sBin tab_eq_2_Chain (sOpd (sOp2 gIx (oName 4) (sOpd (sC (.int 0))))) (sOpd (sOp2 gIx (oName 4) (sOpd (sC (.int 1))))))) (sOpd (sOp2 gEq (oName 3) (oName 2))))) (sRet (sC (.bl false))) (sNx)) (sSeq (sSet 5 (sOp2 gAdd (sOpd (sFnP 2 [] ms__law_all m__law_all (vS (sName 1) (vS (sIf (sTest (sOp2 gEq (sOpd (sFn gLen (sCons (oName 1) (sNil)))) (sOpd (sC (.int 2))))) (sC (.int 5)) (sC (.int 3))) (vNil))))) (sOpd (sLc [16] (.nm 16) (sItR rng1 (sCons (sOpd (sC (.int 4))) (sNil))) (sYes) (sFnP 3 [] ms__law_row m__law_row (vN 0 (vS (sName 1) (vS (sC (.int 20)) (vNil))))))))) (sSeq (sPre [6, 7, 8, 9, 10, 11, 12] (sFor (.nm 6) (sIt (sOpd (sName 5))) (sWp [6, 7, 8, 9, 10, 11, 12] (sSeq (sSet 7 (sFnP 2 [] ms__law_out m__law_out (vS (sName 2) (vS (sName 6) (vNil))))) (sSeq (sIfS (sTest (sOp2 gNe (sOpd (sLst (sCons (sOpd (sInst tab_CALL_2_Chain 1 (sOpd (sOp2 gIx (oName 4) (sOpd (sC (.int 0))))) (vS (sName 6) (vNil)))) (sCons (sOpd (sInst tab_CALL_2_Chain 1 (sOpd (sOp2 gIx (oName 4) (sOpd (sC (.int 1))))) (vS (sName 6) (vNil)))) (sNil))))) (sOpd (sLst (sCons (sOpd (sName 7)) (sCons (sOpd (sName 7)) (sNil))))))) (sRet (sC (.bl false))) (sNx)) (sSeq (sIfS (sTest (sOp2 gNe (sOpd (sInst tab_CALL_2 1 (sOpd (sFnP 1 [] ms__law_pass m__law_pass (vS (sOp2 gIx (oName 3) (sOpd (sC (.int 0)))) (vNil)))) (vS (sName 6) (vNil)))) (sOpd (sFnP 2 [] ms__law_out m__law_out (vS (sSl gSl (oName 2) (sNoP) (sP (sC (.int 1)))) (vS (sName 6) (vNil))))))) (sRet (sC (.bl false))) (sNx)) (sSeq (sIfS (sTest (sOp2 gNe (oName 6) (sOpd (sC (.str (lit "")))))) (sSeq (sSet 7 (sFnP 2 [] ms__law_round m__law_round (vS (sName 2) (vS (sName 6) (vNil))))) (sIfS (sTest (sOp2 gNe (sOpd (sLc [17] (.nm 17) (sIt (sOpd (sName 4))) (sYes) (sMeth tab_ring_2_Chain "ring" 1 (sOpd (sName 17)) (vS (sName 6) (vNil))))) (sOpd (sLst (sCons (sOpd (sName 7)) (sCons (sOpd (sName 7)) (sNil))))))) (sRet (sC (.bl false))) (sNx))) (sNx)) (sSeq (sParV 8 9 (vE (sLc [17] (.nm 17) (sIt (sOpd (sName 4))) (sYes) (sFld cs_start "start" (oName 17))) (vE (sLst (sCons (sOpd (sC (.str (lit "")))) (sCons (sOpd (sC (.str (lit "")))) (sNil)))) (vNil)))) (sPre [10, 11, 12] (sFor (.nm 10) (sIt (sOpd (sName 6))) (sWp [10, 11, 12] (sSeq (sPre [11, 12] (sFor (.nm 11) (sItR rng1 (sCons (sOpd (sC (.int 2))) (sNil))) (sWp [11, 12] (sSeq (sAsgX 8 12 (sName 11) (sOpd (sMeth tab_step_3_Chain "step" 2 (sOpd (sOp2 gIx (oName 4) (oName 11))) (vS (sOp2 gIx (oName 8) (oName 11)) (vS (sName 10) (vNil)))))) (sSetIx 9 (sName 11) (sOp2 gAdd (sOpd (sOp2 gIx (oName 9) (oName 11))) (oName 12))))))) (sIfS (sOr (sTest (sOp2 gNe (sOpd (sOp2 gIx (oName 9) (sOpd (sC (.int 0))))) (sOpd (sOp2 gIx (oName 9) (sOpd (sC (.int 1))))))) (sTest (sOp2 gNe (sOpd (sOp2 gIx (oName 8) (sOpd (sC (.int 0))))) (sOpd (sOp2 gIx (oName 8) (sOpd (sC (.int 1)))))))) (sRet (sC (.bl false))) (sNx)))))))))))))) (sSeq (sSet 13 (sLc [15] (.nm 15) (sIt (sOpd (sName 2))) (sYes) (sOp2 gAdd (sOpd (sTup (sCons (sOpd (sRev (oName 1))) (sNil)))) (sOpd (sSl gSl (oName 15) (sP (sC (.int 1))) (sNoP)))))) (sSeq (sSet 14 (sFnP 2 [] ms__law_chain_of m__law_chain_of (vS (sRev (oName 1)) (vS (sName 13) (vNil))))) (sSeq (sSet 6 (sFnP 3 [] ms__law_row m__law_row (vN 0 (vS (sName 1) (vS (sC (.int 12)) (vNil)))))) (sRet (sAndV (sOp2 gEq (sOpd (sInst tab_CALL_2_Chain 1 (sOpd (sName 14)) (vS (sName 6) (vNil)))) (sOpd (sInst tab_CALL_2_Chain 1 (sOpd (sOp2 gIx (oName 4) (sOpd (sC (.int 0))))) (vS (sName 6) (vNil))))) (sNeO tab_eq_2_Chain (sOpd (sName 14)) (sOpd (sOp2 gIx (oName 4) (sOpd (sC (.int 0)))))))))))))))))
def m__law_right : Mir := bodyM ms__law_right 18 sem__law_right
abbrev ms__law_bag : List Bool := [false, false]
def sem__law_bag : Rho → Ss := sSeq (sParV 2 3 (vE (sIf (sTest (sOp2 gLt (oName 1) (sOpd (sFn gLen (sCons (oName 0) (sNil)))))) (sFn gInt (sCons (sOpd (sOp2 gIx (oName 0) (oName 1))) (sNil))) (sC (.int 0))) (vE (sOp2 gMulT (sOpd (sC (.int 90001))) (sOpd (sOp2 gAdd (oName 1) (sOpd (sC (.int 3)))))) (vNil)))) (sSeq (sPre [4] (sFor (.nm 4) (sIt (sOpd (sSl gSl (oName 0) (sNoP) (sP (sC (.int 7)))))) (sWp [4] (sSet 3 (sOp2 gMod (sOpd (sFn gInt (sCons (sOpd (sOp2 gAdd (sOpd (sOp2 gAdd (sOpd (sOp2 gMulT (oName 3) (sOpd (sC (.int 31337))))) (sOpd (sOp2 gMod (sOpd (sFn gInt (sCons (oName 4) (sNil)))) (sOpd (sC (.int 1000003))))))) (sOpd (sOp2 gMulT (sOpd (sC (.int 7))) (oName 1))))) (sNil)))) (sOpd (sC (.int 2147483629)))))))) (sSeq (sSet 5 (sIf (sOr (sTest (sOp2 gLt (oName 2) (sOpd (sC (.int 0))))) (sTest (sOp2 gGe (oName 2) (sOpd (sOp2 gPow (sOpd (sC (.int 10))) (sOpd (sC (.int 15)))))))) (sFn gAbs (sCons (oName 2) (sNil))) (sC (.int 0)))) (sRet (sLst (sCons (sOpd (sName 5)) (sCons (sOpd (sOp2 gMod (sOpd (sFn gInt (sCons (sOpd (sOp2 gAdd (oName 3) (sOpd (sOp2 gMulT (sOpd (sC (.int 48271))) (sOpd (sOp2 gMod (sOpd (sFn gInt (sCons (oName 2) (sNil)))) (sOpd (sC (.int 999983))))))))) (sNil)))) (sOpd (sC (.int 2147483629))))) (sCons (sOpd (sC (.int 0))) (sNil))))))))
def m__law_bag : Mir := bodyM ms__law_bag 6 sem__law_bag
abbrev ms_law : List Bool := [false]
def sem_law : Rho → Ss := sRet (sFn gAll (sCons (sOpd (sLc [1] (.nm 1) (sItR rng1 (sCons (sOpd (sFn gMax (sCons (sOpd (sC (.int 2))) (sCons (sOpd (sFn gMin (sCons (sOpd (sFn gLen (sCons (oName 0) (sNil)))) (sCons (sOpd (sC (.int 5))) (sNil))))) (sNil))))) (sNil))) (sYes) (sFnP 1 [] ms__law_right m__law_right (vE (sFnP 2 [] ms__law_bag m__law_bag (vS (sName 0) (vS (sName 1) (vNil)))) (vNil))))) (sNil)))
def m_law : Mir := bodyM ms_law 2 sem_law
end Law
namespace Law
open PySem PySem.Spec PyProof.Rows L2 Nu
/-- what the text holds behind its top -/
structure Ax (K : PySem.W.Frag) (mg : Str → Option Value) : Prop where
  f_abs : mg "abs" = none
  f_all : mg "all" = none
  f_bool : mg "bool" = none
  f_enumerate : mg "enumerate" = none
  f_int : mg "int" = none
  f_isinstance : mg "isinstance" = none
  f_len : mg "len" = none
  f_list : mg "list" = none
  f_max : mg "max" = none
  f_min : mg "min" = none
  f_range : mg "range" = none
  f_set : mg "set" = none
  f_str : mg "str" = none
  f_sum : mg "sum" = none
  f_tuple : mg "tuple" = none
  c_MOST_PASSES : ∃ t, mg "MOST_PASSES" = some (.int 12 t)
  c_MOST_REACH : ∃ t, mg "MOST_REACH" = some (.int 2 t)
  c_MOST_RULES : ∃ t, mg "MOST_RULES" = some (.int 12 t)
  c_MOST_SIGNS : ∃ t, mg "MOST_SIGNS" = some (.int 4 t)
  c_MOST_WIDE : ∃ t, mg "MOST_WIDE" = some (.int 256 t)
  c_SIGNS : ∃ t, mg "SIGNS" = some (.str (Str.ofString "abcdefghijklmnopqrstuvwxyz0123456789") t)
  g__law_draw : mg "_law_draw" = some (.ref (He.ga K "_law_draw"))
  g__law_one : mg "_law_one" = some (.ref (He.ga K "_law_one"))
  g__law_signs : mg "_law_signs" = some (.ref (He.ga K "_law_signs"))
  g_are_unlike_signs : mg "are_unlike_signs" = some (.ref (He.ga K "are_unlike_signs"))
  g_is_alphabet : mg "is_alphabet" = some (.ref (He.ga K "is_alphabet"))
  g_check_signs : mg "check_signs" = some (.ref (He.ga K "check_signs"))
  g_is_pass_over : mg "is_pass_over" = some (.ref (He.ga K "is_pass_over"))
  g_check_passes : mg "check_passes" = some (.ref (He.ga K "check_passes"))
  g_is_pattern : mg "is_pattern" = some (.ref (He.ga K "is_pattern"))
  g_is_over : mg "is_over" = some (.ref (He.ga K "is_over"))
  g_is_sign : mg "is_sign" = some (.ref (He.ga K "is_sign"))
  g_is_rule : mg "is_rule" = some (.ref (He.ga K "is_rule"))
  g_check_rules : mg "check_rules" = some (.ref (He.ga K "check_rules"))
  g_is_integer : mg "is_integer" = some (.ref (He.ga K "is_integer"))
  g_is_number : mg "is_number" = some (.ref (He.ga K "is_number"))
  g__law_pass : mg "_law_pass" = some (.ref (He.ga K "_law_pass"))
  g__law_chain_of : mg "_law_chain_of" = some (.ref (He.ga K "_law_chain_of"))
  g__law_row : mg "_law_row" = some (.ref (He.ga K "_law_row"))
  g__law_part : mg "_law_part" = some (.ref (He.ga K "_law_part"))
  g__law_form : mg "_law_form" = some (.ref (He.ga K "_law_form"))
  g__law_parted : mg "_law_parted" = some (.ref (He.ga K "_law_parted"))
  g__law_otherwise : mg "_law_otherwise" = some (.ref (He.ga K "_law_otherwise"))
  g__law_longer : mg "_law_longer" = some (.ref (He.ga K "_law_longer"))
  g__law_all : mg "_law_all" = some (.ref (He.ga K "_law_all"))
  g__law_give : mg "_law_give" = some (.ref (He.ga K "_law_give"))
  g__law_window : mg "_law_window" = some (.ref (He.ga K "_law_window"))
  g__law_out : mg "_law_out" = some (.ref (He.ga K "_law_out"))
  g_check_row : mg "check_row" = some (.ref (He.ga K "check_row"))
  g_lets_in : mg "lets_in" = some (.ref (He.ga K "lets_in"))
  g_filled_out : mg "filled_out" = some (.ref (He.ga K "filled_out"))
  g__law_round : mg "_law_round" = some (.ref (He.ga K "_law_round"))
  g_next_memory : mg "next_memory" = some (.ref (He.ga K "next_memory"))
  g_check_ring : mg "check_ring" = some (.ref (He.ga K "check_ring"))
  g__law_right : mg "_law_right" = some (.ref (He.ga K "_law_right"))
  g__law_bag : mg "_law_bag" = some (.ref (He.ga K "_law_bag"))
  g_law : mg "law" = some (.ref (He.ga K "law"))
  g_Pass : mg "Pass" = some (.ref (He.ga K "Pass"))
  l_Pass : Cls K (He.ga K "Pass")
  mk_Pass : Mk K (He.ga K "Pass") (He.ma K (He.ga K "Pass") "__init__")
  g_Chain : mg "Chain" = some (.ref (He.ga K "Chain"))
  l_Chain : Cls K (He.ga K "Chain")
  mk_Chain : Mk K (He.ga K "Chain") (He.ma K (He.ga K "Chain") "__init__")
  d_ahead : FldOk K cs_ahead "ahead"
  d_back : FldOk K cs_back "back"
  d_edge : FldOk K cs_edge "edge"
  d_form : FldOk K cs_form "form"
  d_passes : FldOk K cs_passes "passes"
  d_reach : FldOk K cs_reach "reach"
  d_rules : FldOk K cs_rules "rules"
  d_signs : FldOk K cs_signs "signs"
  d_start : FldOk K cs_start "start"
  m_Chain___eq__ : Meth K (He.ga K "Chain") "__eq__" (He.ma K (He.ga K "Chain") "__eq__")
  m_Pass_told_for : Meth K (He.ga K "Pass") "told_for" (He.ma K (He.ga K "Pass") "told_for")
  m_Pass_along : Meth K (He.ga K "Pass") "along" (He.ma K (He.ga K "Pass") "along")
  m_Pass___call__ : StX.CallO K (He.ga K "Pass") (He.ma K (He.ga K "Pass") "__call__")
  m_Chain___call__ : StX.CallO K (He.ga K "Chain") (He.ma K (He.ga K "Chain") "__call__")
  m_Chain_step : Meth K (He.ga K "Chain") "step" (He.ma K (He.ga K "Chain") "step")
  m_Pass_ring : Meth K (He.ga K "Pass") "ring" (He.ma K (He.ga K "Pass") "ring")
  m_Chain_ring : Meth K (He.ga K "Chain") "ring" (He.ma K (He.ga K "Chain") "ring")
  e_Chain___init___0 : ∀ F, Rel K F (.ref (He.dflAt ("Chain", some "__init__") 0 K)) (.tup [])
  o_Chain___eq__ : OpMeth K "Chain" "__eq__"
  n_Chain : NeMeth K "Chain"
  i_Chain : IsCOk K cs_isi "Chain"
  i_Pass : IsCOk K cs_isi "Pass"
  F__law_draw : ∃ fd, FunD K "_law_draw" "_law_draw" (defArgs st__law_draw) (defBody st__law_draw) (defScope st__law_draw) [] [] (He.ga K "_law_draw") fd
  F__law_one : ∃ fd, FunD K "_law_one" "_law_one" (defArgs st__law_one) (defBody st__law_one) (defScope st__law_one) [] [] (He.ga K "_law_one") fd
  F__law_signs : ∃ fd, FunD K "_law_signs" "_law_signs" (defArgs st__law_signs) (defBody st__law_signs) (defScope st__law_signs) [] [] (He.ga K "_law_signs") fd
  F_are_unlike_signs : ∃ fd, FunD K "are_unlike_signs" "are_unlike_signs" (defArgs st_are_unlike_signs) (defBody st_are_unlike_signs) (defScope st_are_unlike_signs) [] [] (He.ga K "are_unlike_signs") fd
  F_is_alphabet : ∃ fd, FunD K "is_alphabet" "is_alphabet" (defArgs st_is_alphabet) (defBody st_is_alphabet) (defScope st_is_alphabet) [] [] (He.ga K "is_alphabet") fd
  F_check_signs : ∃ fd, FunD K "check_signs" "check_signs" (defArgs st_check_signs) (defBody st_check_signs) (defScope st_check_signs) [] [] (He.ga K "check_signs") fd
  F_is_pass_over : ∃ fd, FunD K "is_pass_over" "is_pass_over" (defArgs st_is_pass_over) (defBody st_is_pass_over) (defScope st_is_pass_over) [] [] (He.ga K "is_pass_over") fd
  F_check_passes : ∃ fd, FunD K "check_passes" "check_passes" (defArgs st_check_passes) (defBody st_check_passes) (defScope st_check_passes) [] [] (He.ga K "check_passes") fd
  F_Chain___init__ : ∃ fd, FunD K "__init__" "Chain.__init__" (defArgs st_Chain___init__) (defBody st_Chain___init__) (defScope st_Chain___init__) [.ref (He.dflAt ("Chain", some "__init__") 0 K)] [] (He.ma K (He.ga K "Chain") "__init__") fd
  F_is_pattern : ∃ fd, FunD K "is_pattern" "is_pattern" (defArgs st_is_pattern) (defBody st_is_pattern) (defScope st_is_pattern) [] [] (He.ga K "is_pattern") fd
  F_is_over : ∃ fd, FunD K "is_over" "is_over" (defArgs st_is_over) (defBody st_is_over) (defScope st_is_over) [] [] (He.ga K "is_over") fd
  F_is_sign : ∃ fd, FunD K "is_sign" "is_sign" (defArgs st_is_sign) (defBody st_is_sign) (defScope st_is_sign) [] [] (He.ga K "is_sign") fd
  F_is_rule : ∃ fd, FunD K "is_rule" "is_rule" (defArgs st_is_rule) (defBody st_is_rule) (defScope st_is_rule) [] [] (He.ga K "is_rule") fd
  F_check_rules : ∃ fd, FunD K "check_rules" "check_rules" (defArgs st_check_rules) (defBody st_check_rules) (defScope st_check_rules) [] [] (He.ga K "check_rules") fd
  F_is_integer : ∃ fd, FunD K "is_integer" "is_integer" (defArgs st_is_integer) (defBody st_is_integer) (defScope st_is_integer) [] [] (He.ga K "is_integer") fd
  F_is_number : ∃ fd, FunD K "is_number" "is_number" (defArgs st_is_number) (defBody st_is_number) (defScope st_is_number) [.non] [] (He.ga K "is_number") fd
  F_Pass___init__ : ∃ fd, FunD K "__init__" "Pass.__init__" (defArgs st_Pass___init__) (defBody st_Pass___init__) (defScope st_Pass___init__) [.non] [("back", .int 1), ("ahead", .int 1)] (He.ma K (He.ga K "Pass") "__init__") fd
  F__law_pass : ∃ fd, FunD K "_law_pass" "_law_pass" (defArgs st__law_pass) (defBody st__law_pass) (defScope st__law_pass) [] [] (He.ga K "_law_pass") fd
  F__law_chain_of : ∃ fd, FunD K "_law_chain_of" "_law_chain_of" (defArgs st__law_chain_of) (defBody st__law_chain_of) (defScope st__law_chain_of) [] [] (He.ga K "_law_chain_of") fd
  F__law_row : ∃ fd, FunD K "_law_row" "_law_row" (defArgs st__law_row) (defBody st__law_row) (defScope st__law_row) [] [] (He.ga K "_law_row") fd
  F__law_part : ∃ fd, FunD K "_law_part" "_law_part" (defArgs st__law_part) (defBody st__law_part) (defScope st__law_part) [] [] (He.ga K "_law_part") fd
  F__law_form : ∃ fd, FunD K "_law_form" "_law_form" (defArgs st__law_form) (defBody st__law_form) (defScope st__law_form) [] [] (He.ga K "_law_form") fd
  F__law_parted : ∃ fd, FunD K "_law_parted" "_law_parted" (defArgs st__law_parted) (defBody st__law_parted) (defScope st__law_parted) [] [] (He.ga K "_law_parted") fd
  F__law_otherwise : ∃ fd, FunD K "_law_otherwise" "_law_otherwise" (defArgs st__law_otherwise) (defBody st__law_otherwise) (defScope st__law_otherwise) [] [] (He.ga K "_law_otherwise") fd
  F_Chain___eq__ : ∃ fd, FunD K "__eq__" "Chain.__eq__" (defArgs st_Chain___eq__) (defBody st_Chain___eq__) (defScope st_Chain___eq__) [] [] (He.ma K (He.ga K "Chain") "__eq__") fd
  F__law_longer : ∃ fd, FunD K "_law_longer" "_law_longer" (defArgs st__law_longer) (defBody st__law_longer) (defScope st__law_longer) [] [] (He.ga K "_law_longer") fd
  F__law_all : ∃ fd, FunD K "_law_all" "_law_all" (defArgs st__law_all) (defBody st__law_all) (defScope st__law_all) [] [] (He.ga K "_law_all") fd
  F__law_give : ∃ fd, FunD K "_law_give" "_law_give" (defArgs st__law_give) (defBody st__law_give) (defScope st__law_give) [] [] (He.ga K "_law_give") fd
  F__law_window : ∃ fd, FunD K "_law_window" "_law_window" (defArgs st__law_window) (defBody st__law_window) (defScope st__law_window) [] [] (He.ga K "_law_window") fd
  F__law_out : ∃ fd, FunD K "_law_out" "_law_out" (defArgs st__law_out) (defBody st__law_out) (defScope st__law_out) [] [] (He.ga K "_law_out") fd
  F_check_row : ∃ fd, FunD K "check_row" "check_row" (defArgs st_check_row) (defBody st_check_row) (defScope st_check_row) [] [] (He.ga K "check_row") fd
  F_lets_in : ∃ fd, FunD K "lets_in" "lets_in" (defArgs st_lets_in) (defBody st_lets_in) (defScope st_lets_in) [] [] (He.ga K "lets_in") fd
  F_Pass_told_for : ∃ fd, FunD K "told_for" "Pass.told_for" (defArgs st_Pass_told_for) (defBody st_Pass_told_for) (defScope st_Pass_told_for) [] [] (He.ma K (He.ga K "Pass") "told_for") fd
  F_Pass_along : ∃ fd, FunD K "along" "Pass.along" (defArgs st_Pass_along) (defBody st_Pass_along) (defScope st_Pass_along) [] [] (He.ma K (He.ga K "Pass") "along") fd
  F_filled_out : ∃ fd, FunD K "filled_out" "filled_out" (defArgs st_filled_out) (defBody st_filled_out) (defScope st_filled_out) [] [] (He.ga K "filled_out") fd
  F_Pass___call__ : ∃ fd, FunD K "__call__" "Pass.__call__" (defArgs st_Pass___call__) (defBody st_Pass___call__) (defScope st_Pass___call__) [] [] (He.ma K (He.ga K "Pass") "__call__") fd
  F__law_round : ∃ fd, FunD K "_law_round" "_law_round" (defArgs st__law_round) (defBody st__law_round) (defScope st__law_round) [] [] (He.ga K "_law_round") fd
  F_Chain___call__ : ∃ fd, FunD K "__call__" "Chain.__call__" (defArgs st_Chain___call__) (defBody st_Chain___call__) (defScope st_Chain___call__) [] [] (He.ma K (He.ga K "Chain") "__call__") fd
  F_next_memory : ∃ fd, FunD K "next_memory" "next_memory" (defArgs st_next_memory) (defBody st_next_memory) (defScope st_next_memory) [] [] (He.ga K "next_memory") fd
  F_Chain_step : ∃ fd, FunD K "step" "Chain.step" (defArgs st_Chain_step) (defBody st_Chain_step) (defScope st_Chain_step) [] [] (He.ma K (He.ga K "Chain") "step") fd
  F_check_ring : ∃ fd, FunD K "check_ring" "check_ring" (defArgs st_check_ring) (defBody st_check_ring) (defScope st_check_ring) [] [] (He.ga K "check_ring") fd
  F_Pass_ring : ∃ fd, FunD K "ring" "Pass.ring" (defArgs st_Pass_ring) (defBody st_Pass_ring) (defScope st_Pass_ring) [] [] (He.ma K (He.ga K "Pass") "ring") fd
  F_Chain_ring : ∃ fd, FunD K "ring" "Chain.ring" (defArgs st_Chain_ring) (defBody st_Chain_ring) (defScope st_Chain_ring) [] [] (He.ma K (He.ga K "Chain") "ring") fd
  F__law_right : ∃ fd, FunD K "_law_right" "_law_right" (defArgs st__law_right) (defBody st__law_right) (defScope st__law_right) [] [] (He.ga K "_law_right") fd
  F__law_bag : ∃ fd, FunD K "_law_bag" "_law_bag" (defArgs st__law_bag) (defBody st__law_bag) (defScope st__law_bag) [] [] (He.ga K "_law_bag") fd
  F_law : ∃ fd, FunD K "law" "law" (defArgs st_law) (defBody st_law) (defScope st_law) [] [] (He.ga K "law") fd
variable {P : Program} {w : World} {K : PySem.W.Frag} {mg : Str → Option Value} {base : Heap}
theorem Ax.k__law_draw (a : Ax K mg) : PySem.W.keepIn K (.ref (He.ga K "_law_draw")) = true := let ⟨_, F⟩ := a.F__law_draw; F.kp
theorem Ax.k__law_one (a : Ax K mg) : PySem.W.keepIn K (.ref (He.ga K "_law_one")) = true := let ⟨_, F⟩ := a.F__law_one; F.kp
theorem Ax.k__law_signs (a : Ax K mg) : PySem.W.keepIn K (.ref (He.ga K "_law_signs")) = true := let ⟨_, F⟩ := a.F__law_signs; F.kp
theorem Ax.k_are_unlike_signs (a : Ax K mg) : PySem.W.keepIn K (.ref (He.ga K "are_unlike_signs")) = true := let ⟨_, F⟩ := a.F_are_unlike_signs; F.kp
theorem Ax.k_is_alphabet (a : Ax K mg) : PySem.W.keepIn K (.ref (He.ga K "is_alphabet")) = true := let ⟨_, F⟩ := a.F_is_alphabet; F.kp
theorem Ax.k_check_signs (a : Ax K mg) : PySem.W.keepIn K (.ref (He.ga K "check_signs")) = true := let ⟨_, F⟩ := a.F_check_signs; F.kp
theorem Ax.k_is_pass_over (a : Ax K mg) : PySem.W.keepIn K (.ref (He.ga K "is_pass_over")) = true := let ⟨_, F⟩ := a.F_is_pass_over; F.kp
theorem Ax.k_check_passes (a : Ax K mg) : PySem.W.keepIn K (.ref (He.ga K "check_passes")) = true := let ⟨_, F⟩ := a.F_check_passes; F.kp
theorem Ax.k_is_pattern (a : Ax K mg) : PySem.W.keepIn K (.ref (He.ga K "is_pattern")) = true := let ⟨_, F⟩ := a.F_is_pattern; F.kp
theorem Ax.k_is_over (a : Ax K mg) : PySem.W.keepIn K (.ref (He.ga K "is_over")) = true := let ⟨_, F⟩ := a.F_is_over; F.kp
theorem Ax.k_is_sign (a : Ax K mg) : PySem.W.keepIn K (.ref (He.ga K "is_sign")) = true := let ⟨_, F⟩ := a.F_is_sign; F.kp
theorem Ax.k_is_rule (a : Ax K mg) : PySem.W.keepIn K (.ref (He.ga K "is_rule")) = true := let ⟨_, F⟩ := a.F_is_rule; F.kp
theorem Ax.k_check_rules (a : Ax K mg) : PySem.W.keepIn K (.ref (He.ga K "check_rules")) = true := let ⟨_, F⟩ := a.F_check_rules; F.kp
theorem Ax.k_is_integer (a : Ax K mg) : PySem.W.keepIn K (.ref (He.ga K "is_integer")) = true := let ⟨_, F⟩ := a.F_is_integer; F.kp
theorem Ax.k_is_number (a : Ax K mg) : PySem.W.keepIn K (.ref (He.ga K "is_number")) = true := let ⟨_, F⟩ := a.F_is_number; F.kp
theorem Ax.k__law_pass (a : Ax K mg) : PySem.W.keepIn K (.ref (He.ga K "_law_pass")) = true := let ⟨_, F⟩ := a.F__law_pass; F.kp
theorem Ax.k__law_chain_of (a : Ax K mg) : PySem.W.keepIn K (.ref (He.ga K "_law_chain_of")) = true := let ⟨_, F⟩ := a.F__law_chain_of; F.kp
theorem Ax.k__law_row (a : Ax K mg) : PySem.W.keepIn K (.ref (He.ga K "_law_row")) = true := let ⟨_, F⟩ := a.F__law_row; F.kp
theorem Ax.k__law_part (a : Ax K mg) : PySem.W.keepIn K (.ref (He.ga K "_law_part")) = true := let ⟨_, F⟩ := a.F__law_part; F.kp
theorem Ax.k__law_form (a : Ax K mg) : PySem.W.keepIn K (.ref (He.ga K "_law_form")) = true := let ⟨_, F⟩ := a.F__law_form; F.kp
theorem Ax.k__law_parted (a : Ax K mg) : PySem.W.keepIn K (.ref (He.ga K "_law_parted")) = true := let ⟨_, F⟩ := a.F__law_parted; F.kp
theorem Ax.k__law_otherwise (a : Ax K mg) : PySem.W.keepIn K (.ref (He.ga K "_law_otherwise")) = true := let ⟨_, F⟩ := a.F__law_otherwise; F.kp
theorem Ax.k__law_longer (a : Ax K mg) : PySem.W.keepIn K (.ref (He.ga K "_law_longer")) = true := let ⟨_, F⟩ := a.F__law_longer; F.kp
theorem Ax.k__law_all (a : Ax K mg) : PySem.W.keepIn K (.ref (He.ga K "_law_all")) = true := let ⟨_, F⟩ := a.F__law_all; F.kp
theorem Ax.k__law_give (a : Ax K mg) : PySem.W.keepIn K (.ref (He.ga K "_law_give")) = true := let ⟨_, F⟩ := a.F__law_give; F.kp
theorem Ax.k__law_window (a : Ax K mg) : PySem.W.keepIn K (.ref (He.ga K "_law_window")) = true := let ⟨_, F⟩ := a.F__law_window; F.kp
theorem Ax.k__law_out (a : Ax K mg) : PySem.W.keepIn K (.ref (He.ga K "_law_out")) = true := let ⟨_, F⟩ := a.F__law_out; F.kp
theorem Ax.k_check_row (a : Ax K mg) : PySem.W.keepIn K (.ref (He.ga K "check_row")) = true := let ⟨_, F⟩ := a.F_check_row; F.kp
theorem Ax.k_lets_in (a : Ax K mg) : PySem.W.keepIn K (.ref (He.ga K "lets_in")) = true := let ⟨_, F⟩ := a.F_lets_in; F.kp
theorem Ax.k_filled_out (a : Ax K mg) : PySem.W.keepIn K (.ref (He.ga K "filled_out")) = true := let ⟨_, F⟩ := a.F_filled_out; F.kp
theorem Ax.k__law_round (a : Ax K mg) : PySem.W.keepIn K (.ref (He.ga K "_law_round")) = true := let ⟨_, F⟩ := a.F__law_round; F.kp
theorem Ax.k_next_memory (a : Ax K mg) : PySem.W.keepIn K (.ref (He.ga K "next_memory")) = true := let ⟨_, F⟩ := a.F_next_memory; F.kp
theorem Ax.k_check_ring (a : Ax K mg) : PySem.W.keepIn K (.ref (He.ga K "check_ring")) = true := let ⟨_, F⟩ := a.F_check_ring; F.kp
theorem Ax.k__law_right (a : Ax K mg) : PySem.W.keepIn K (.ref (He.ga K "_law_right")) = true := let ⟨_, F⟩ := a.F__law_right; F.kp
theorem Ax.k__law_bag (a : Ax K mg) : PySem.W.keepIn K (.ref (He.ga K "_law_bag")) = true := let ⟨_, F⟩ := a.F__law_bag; F.kp
theorem Ax.k_law (a : Ax K mg) : PySem.W.keepIn K (.ref (He.ga K "law")) = true := let ⟨_, F⟩ := a.F_law; F.kp
/-! ### _law_draw -/
theorem sc__law_draw : FnScope ["_law_bag_here", "_law_many", "_law_figure", "_law_held"] ["_law_bag_here", "_law_many"] (defScope st__law_draw) := ⟨rfl, rfl, rfl, by decide +kernel, rfl, by decide +kernel, by decide +kernel⟩
theorem ok__law_draw (a : Ax K mg) {f : Addr} {fd : FuncData} (F : FunD K "_law_draw" "_law_draw" (defArgs st__law_draw) (defBody st__law_draw) (defScope st__law_draw) [] [] f fd) : Nu.FnOk P w K mg base (L2N.CX P w) 1 f fd ["_law_bag_here", "_law_many"] (spM K ms__law_draw m__law_draw) :=
  fn_body F sc__law_draw rfl fun cdv A outer s H vs E hr => (dss_cons (ds_setIx (pv 0) de_int (de_add rfl (do_of (de_ix ix_seq o_ix (do_name (pv 0)) (do_of de_int))) (do_of de_int))) (dss_cons (ds_if (dt_cmp op_gt o_gt (do_of (de_ix ix_seq o_ix (do_name (pv 0)) (do_of de_int))) (do_of de_int) (nomark _)) (dss_cons (ds_set sc__law_draw.nd rfl (.inl rfl) (de_mod (do_of (de_callTy call_int1 o_int rfl a.f_int boot_int (da_cons (do_of (de_ix ix_seq o_ix (do_name (pv 0)) (do_of de_int))) da_nil))) (do_name (pv 1)))) (dss_cons (ds_setIx (pv 0) de_int (de_div (do_of (de_ix ix_seq o_ix (do_name (pv 0)) (do_of de_int))) (do_name (pv 1)))) (dss_one (ds_retV (pv 2))))) dss_nil) (dss_cons (ds_set sc__law_draw.nd rfl (.inl rfl) (de_add rfl (do_of (de_callTy call_int1 o_int rfl a.f_int boot_int (da_cons (do_of (de_ix ix_seq o_ix (do_name (pv 0)) (do_of de_int))) da_nil))) (do_of (de_mulT rfl (do_of de_int) (do_of (de_ix ix_seq o_ix (do_name (pv 0)) (do_of de_int))))))) (dss_cons (ds_setIx (pv 0) de_int (de_mod (do_of (de_callTy call_int1 o_int rfl a.f_int boot_int (da_cons (do_of (de_add rfl (do_of (de_add rfl (do_of (de_mulT rfl (do_name (pv 3)) (do_of (de_add rfl (do_of (de_mod (do_of (de_callTy call_int1 o_int rfl a.f_int boot_int (da_cons (do_name (pv 3)) da_nil))) (do_of de_int))) (do_of de_int))))) (do_of (de_mulT rfl (do_of de_int) (do_of (de_ix ix_seq o_ix (do_name (pv 0)) (do_of de_int))))))) (do_of de_int))) da_nil))) (do_of de_int))) (dss_one (ds_ret (de_mod (do_of (de_div (do_of (de_callTy call_int1 o_int rfl a.f_int boot_int (da_cons (do_of (de_ix ix_seq o_ix (do_name (pv 0)) (do_of de_int))) da_nil))) (do_of de_int))) (do_name (pv 1)))))))))
theorem fv__law_draw_2 (a : Ax K mg) : FnV P w K mg base 1 (He.ga K "_law_draw") 2 [] [] ms__law_draw m__law_draw :=
  let ⟨fd, F⟩ := a.F__law_draw
  ⟨fd, _, _, ok__law_draw a F, bdN F [] fun _ _ _ _ _ _ us ws h1 h2 => match us, ws, h1, h2 with | [_, _], [], _, _ => rfl, .nil⟩
/-! ### _law_one -/
theorem sc__law_one : FnScope ["_law_bag_here", "_law_some"] ["_law_bag_here", "_law_some"] (defScope st__law_one) := ⟨rfl, rfl, rfl, by decide +kernel, rfl, by decide +kernel, by decide +kernel⟩
theorem ok__law_one (a : Ax K mg) {f : Addr} {fd : FuncData} (F : FunD K "_law_one" "_law_one" (defArgs st__law_one) (defBody st__law_one) (defScope st__law_one) [] [] f fd) : Nu.FnOk P w K mg base (L2N.CX P w) 2 f fd ["_law_bag_here", "_law_some"] (spM K ms__law_one m__law_one) :=
  fn_body F sc__law_one rfl fun cdv A outer s H vs E hr => (dss_one (ds_ret (de_ix ix_seq o_ix (do_name (pv 1)) (do_of (de_call rfl (fv__law_draw_2 a) (hr.mono (by decide)) takes_cx rfl a.g__law_draw a.k__law_draw (dv_n (pv 0) (dv_s (de_callB call_len o_len rfl a.f_len boot_len (da_cons (do_name (pv 1)) da_nil)) dv_nil)))))))
theorem fv__law_one_2 (a : Ax K mg) : FnV P w K mg base 2 (He.ga K "_law_one") 2 [] [] ms__law_one m__law_one :=
  let ⟨fd, F⟩ := a.F__law_one
  ⟨fd, _, _, ok__law_one a F, bdN F [] fun _ _ _ _ _ _ us ws h1 h2 => match us, ws, h1, h2 with | [_, _], [], _, _ => rfl, .nil⟩
/-! ### _law_signs -/
theorem sc__law_signs : FnScope ["_law_bag_here", "_law_pool", "_law_found", "_law_turn"] ["_law_bag_here"] (defScope st__law_signs) := ⟨rfl, rfl, rfl, by decide +kernel, rfl, by decide +kernel, by decide +kernel⟩
theorem ok__law_signs (a : Ax K mg) {f : Addr} {fd : FuncData} (F : FunD K "_law_signs" "_law_signs" (defArgs st__law_signs) (defBody st__law_signs) (defScope st__law_signs) [] [] f fd) : Nu.FnOk P w K mg base (L2N.CX P w) 3 f fd ["_law_bag_here"] (spM K ms__law_signs m__law_signs) :=
  fn_body F sc__law_signs rfl fun cdv A outer s H vs E hr => (dss_cons (ds_set sc__law_signs.nd rfl (.inl rfl) (de_callTy (call_list1 rfl) o_list rfl a.f_list boot_list (da_cons (do_of (de_call rfl (fv__law_one_2 a) (hr.mono (by decide)) takes_cx rfl a.g__law_one a.k__law_one (dv_n (pv 0) (dv_s (de_lst (da_cons (do_of de_str) (da_cons (do_of de_str) (da_cons (do_of de_str) (da_cons (do_of de_str) (da_cons (do_of de_str) da_nil)))))) dv_nil)))) da_nil))) (dss_cons (ds_set sc__law_signs.nd rfl (.inl rfl) de_str) (dss_cons (ds_pre (ds_for own_cx rfl (di_rng1 rfl a.f_range (da_cons (do_of (de_add rfl (do_of de_int) (do_of (de_callB (call_min2 rfl) o_min rfl a.f_min boot_min (da_cons (do_of (de_div (do_of (de_call rfl (fv__law_draw_2 a) (hr.mono (by decide)) takes_cx rfl a.g__law_draw a.k__law_draw (dv_n (pv 0) (dv_s de_int dv_nil)))) (do_of de_int))) (da_cons (do_of (de_sub (do_of (de_callB call_len o_len rfl a.f_len boot_len (da_cons (do_name (pv 1)) da_nil))) (do_of de_int))) da_nil)))))) da_nil)) (dg_name sc__law_signs.nd rfl (.inl rfl)) (dss_wp (dss_one (ds_set sc__law_signs.nd rfl (.inl rfl) (de_add rfl (do_name (pv 2)) (do_of (de_popI (pv 1) (da_cons (do_of (de_call rfl (fv__law_draw_2 a) (hr.mono (by decide)) takes_cx rfl a.g__law_draw a.k__law_draw (dv_n (pv 0) (dv_s (de_callB call_len o_len rfl a.f_len boot_len (da_cons (do_name (pv 1)) da_nil)) dv_nil)))) da_nil))))))))) (dss_one (ds_retV (pv 2))))))
theorem fv__law_signs_1 (a : Ax K mg) : FnV P w K mg base 3 (He.ga K "_law_signs") 1 [] [] ms__law_signs m__law_signs :=
  let ⟨fd, F⟩ := a.F__law_signs
  ⟨fd, _, _, ok__law_signs a F, bdN F [] fun _ _ _ _ _ _ us ws h1 h2 => match us, ws, h1, h2 with | [_], [], _, _ => rfl, .nil⟩
/-! ### are_unlike_signs -/
theorem sc_are_unlike_signs : FnScope ["signs", "word", "sign"] ["signs", "word"] (defScope st_are_unlike_signs) := ⟨rfl, rfl, rfl, by decide +kernel, rfl, by decide +kernel, by decide +kernel⟩
theorem ok_are_unlike_signs (a : Ax K mg) {f : Addr} {fd : FuncData} (F : FunD K "are_unlike_signs" "are_unlike_signs" (defArgs st_are_unlike_signs) (defBody st_are_unlike_signs) (defScope st_are_unlike_signs) [] [] f fd) : Nu.FnOk P w K mg base (L2N.CX P w) 1 f fd ["signs", "word"] (spM K ms_are_unlike_signs m_are_unlike_signs) :=
  fn_body F sc_are_unlike_signs rfl fun cdv A outer s H vs E hr => (dss_one (ds_ret (de_and (de_callB (cr_all rfl) o_all rfl a.f_all boot_all (da_cons (do_of (de_lc (own := [("sign", 2)]) rfl sc_are_unlike_signs.nd (di_seq rfl (do_of (de_name (pv 1)))) (by kernel_rfl) (fun _ _ _ _ _ => (dg_name sc_are_unlike_signs.nd rfl (.inl rfl))) (fun _ _ _ _ _ => dts_nil) (fun _ _ _ _ _ => (de_cmp (opr_in (hu65 hr)) o_in (do_name (pv 2)) (do_name (pv 0)) (by with_unfolding_all rfl))))) da_nil)) (de_one (de_cmp (op_eqD (hu64 hr)) o_eq (do_of (de_lenSet rfl rfl a.f_len rfl a.f_set (do_name (pv 1)))) (do_of (de_callB call_len o_len rfl a.f_len boot_len (da_cons (do_name (pv 1)) da_nil))) (nomark _))))))
theorem fv_are_unlike_signs_2 (a : Ax K mg) : FnV P w K mg base 1 (He.ga K "are_unlike_signs") 2 [] [] ms_are_unlike_signs m_are_unlike_signs :=
  let ⟨fd, F⟩ := a.F_are_unlike_signs
  ⟨fd, _, _, ok_are_unlike_signs a F, bdN F [] fun _ _ _ _ _ _ us ws h1 h2 => match us, ws, h1, h2 with | [_, _], [], _, _ => rfl, .nil⟩
/-! ### is_alphabet -/
theorem sc_is_alphabet : FnScope ["value"] ["value"] (defScope st_is_alphabet) := ⟨rfl, rfl, rfl, by decide +kernel, rfl, by decide +kernel, by decide +kernel⟩
theorem ok_is_alphabet (a : Ax K mg) {f : Addr} {fd : FuncData} (F : FunD K "is_alphabet" "is_alphabet" (defArgs st_is_alphabet) (defBody st_is_alphabet) (defScope st_is_alphabet) [] [] f fd) : Nu.FnOk P w K mg base (L2N.CX P w) 2 f fd ["value"] (spM K ms_is_alphabet m_is_alphabet) :=
  fn_body F sc_is_alphabet rfl fun cdv A outer s H vs E hr => (dss_one (ds_ret (de_and (de_callB call_isi o_isi rfl a.f_isinstance boot_isinstance (da_cons (do_name (pv 0)) (da_cons (do_of (de_ty rfl a.f_str boot_str)) da_nil))) (de_and (de_chain op_le o_le op_le o_le (do_of de_int) (do_of (de_callB call_len o_len rfl a.f_len boot_len (da_cons (do_name (pv 0)) da_nil))) (do_of (de_gint rfl a.c_MOST_SIGNS))) (de_one (de_call rfl (fv_are_unlike_signs_2 a) (hr.mono (by decide)) takes_cx rfl a.g_are_unlike_signs a.k_are_unlike_signs (dv_s (de_gstr rfl a.c_SIGNS) (dv_s (de_name (pv 0)) dv_nil))))))))
theorem fv_is_alphabet_1 (a : Ax K mg) : FnV P w K mg base 2 (He.ga K "is_alphabet") 1 [] [] ms_is_alphabet m_is_alphabet :=
  let ⟨fd, F⟩ := a.F_is_alphabet
  ⟨fd, _, _, ok_is_alphabet a F, bdN F [] fun _ _ _ _ _ _ us ws h1 h2 => match us, ws, h1, h2 with | [_], [], _, _ => rfl, .nil⟩
/-! ### check_signs -/
theorem sc_check_signs : FnScope ["signs"] ["signs"] (defScope st_check_signs) := ⟨rfl, rfl, rfl, by decide +kernel, rfl, by decide +kernel, by decide +kernel⟩
theorem ok_check_signs (a : Ax K mg) {f : Addr} {fd : FuncData} (F : FunD K "check_signs" "check_signs" (defArgs st_check_signs) (defBody st_check_signs) (defScope st_check_signs) [] [] f fd) : Nu.FnOk P w K mg base (L2N.CX P w) 3 f fd ["signs"] (spM K ms_check_signs m_check_signs) :=
  fn_body F sc_check_signs rfl fun cdv A outer s H vs E hr => (dss_one (ds_if (dt_not (dt_val (de_call rfl (fv_is_alphabet_1 a) (hr.mono (by decide)) takes_cx rfl a.g_is_alphabet a.k_is_alphabet (dv_s (de_name (pv 0)) dv_nil)))) (dss_one ds_never) dss_nil))
theorem fv_check_signs_1 (a : Ax K mg) : FnV P w K mg base 3 (He.ga K "check_signs") 1 [] [] ms_check_signs m_check_signs :=
  let ⟨fd, F⟩ := a.F_check_signs
  ⟨fd, _, _, ok_check_signs a F, bdN F [] fun _ _ _ _ _ _ us ws h1 h2 => match us, ws, h1, h2 with | [_], [], _, _ => rfl, .nil⟩
/-! ### is_pass_over -/
theorem sc_is_pass_over : FnScope ["signs", "value"] ["signs", "value"] (defScope st_is_pass_over) := ⟨rfl, rfl, rfl, by decide +kernel, rfl, by decide +kernel, by decide +kernel⟩
theorem ok_is_pass_over (a : Ax K mg) {f : Addr} {fd : FuncData} (F : FunD K "is_pass_over" "is_pass_over" (defArgs st_is_pass_over) (defBody st_is_pass_over) (defScope st_is_pass_over) [] [] f fd) : Nu.FnOk P w K mg base (L2N.CX P w) 1 f fd ["signs", "value"] (spM K ms_is_pass_over m_is_pass_over) :=
  fn_body F sc_is_pass_over rfl fun cdv A outer s H vs E hr => (dss_one (ds_ret (de_and (de_isC rfl a.i_Pass rfl a.f_isinstance boot_isinstance rfl a.g_Pass (do_name (pv 1))) (de_one (de_cmp (op_eqD (hu64 hr)) o_eq (do_of (de_fld rfl a.d_signs (do_name (pv 1)))) (do_name (pv 0)) (nomark _))))))
theorem fv_is_pass_over_2 (a : Ax K mg) : FnV P w K mg base 1 (He.ga K "is_pass_over") 2 [] [] ms_is_pass_over m_is_pass_over :=
  let ⟨fd, F⟩ := a.F_is_pass_over
  ⟨fd, _, _, ok_is_pass_over a F, bdN F [] fun _ _ _ _ _ _ us ws h1 h2 => match us, ws, h1, h2 with | [_, _], [], _, _ => rfl, .nil⟩
/-! ### check_passes -/
theorem sc_check_passes : FnScope ["signs", "passes", "fillings", "index", "each", "turn"] ["signs", "passes"] (defScope st_check_passes) := ⟨rfl, rfl, rfl, by decide +kernel, rfl, by decide +kernel, by decide +kernel⟩
theorem ok_check_passes (a : Ax K mg) {f : Addr} {fd : FuncData} (F : FunD K "check_passes" "check_passes" (defArgs st_check_passes) (defBody st_check_passes) (defScope st_check_passes) [] [] f fd) : Nu.FnOk P w K mg base (L2N.CX P w) 2 f fd ["signs", "passes"] (spM K ms_check_passes m_check_passes) :=
  fn_body F sc_check_passes rfl fun cdv A outer s H vs E hr => (dss_cons (ds_if (PW.pt (dw_or (dt_not (dt_val (de_callB call_isi o_isi rfl a.f_isinstance boot_isinstance (da_cons (do_name (pv 1)) (da_cons (do_of (de_ty rfl a.f_tuple boot_tuple)) da_nil))))) (dw_or1 (dt_cmp op_gt o_gt (do_of (de_callB call_len o_len rfl a.f_len boot_len (da_cons (do_name (pv 1)) da_nil))) (do_of (de_gint rfl a.c_MOST_PASSES)) (nomark _))))) (dss_one ds_never) dss_nil) (dss_cons (ds_set sc_check_passes.nd rfl (.inl rfl) de_int) (dss_cons (ds_pre (ds_for own_cx rfl (di_enum rfl rfl a.f_enumerate (da_cons (do_of (de_name (pv 1))) da_nil)) (dg_tup rfl (dgs_cons (dg_name sc_check_passes.nd rfl (.inl rfl)) (dgs_cons (dg_name sc_check_passes.nd rfl (.inl rfl)) dgs_nil))) (dss_wp (dss_cons (ds_if (dt_not (dt_val (de_call rfl (fv_is_pass_over_2 a) (hr.mono (by decide)) takes_cx rfl a.g_is_pass_over a.k_is_pass_over (dv_s (de_name (pv 0)) (dv_s (de_name (pv 4)) dv_nil))))) (dss_one ds_never) dss_nil) (dss_one (ds_pre (ds_for own_cx rfl (di_rng1 rfl a.f_range (da_cons (do_of (de_add rfl (do_of (de_fld rfl a.d_back (do_name (pv 4)))) (do_of (de_fld rfl a.d_ahead (do_name (pv 4)))))) da_nil)) (dg_name sc_check_passes.nd rfl (.inl rfl)) (dss_wp (dss_one (ds_set sc_check_passes.nd rfl (.inl rfl) (de_mulT rfl (do_name (pv 2)) (do_of (de_callB call_len o_len rfl a.f_len boot_len (da_cons (do_name (pv 0)) da_nil)))))))))))))) (dss_one (ds_if (dt_cmp op_gt o_gt (do_name (pv 2)) (do_of (de_gint rfl a.c_MOST_WIDE)) (nomark _)) (dss_one ds_never) dss_nil)))))
theorem fv_check_passes_2 (a : Ax K mg) : FnV P w K mg base 2 (He.ga K "check_passes") 2 [] [] ms_check_passes m_check_passes :=
  let ⟨fd, F⟩ := a.F_check_passes
  ⟨fd, _, _, ok_check_passes a F, bdN F [] fun _ _ _ _ _ _ us ws h1 h2 => match us, ws, h1, h2 with | [_, _], [], _, _ => rfl, .nil⟩
/-! ### Chain.__init__ -/
theorem sc_Chain___init__ : FnScope ["self", "signs", "passes", "each"] ["self", "signs", "passes"] (defScope st_Chain___init__) := ⟨rfl, rfl, rfl, by decide +kernel, rfl, by decide +kernel, by decide +kernel⟩
theorem ok_Chain___init__ (a : Ax K mg) {f : Addr} {fd : FuncData} (F : FunD K "__init__" "Chain.__init__" (defArgs st_Chain___init__) (defBody st_Chain___init__) (defScope st_Chain___init__) [.ref (He.dflAt ("Chain", some "__init__") 0 K)] [] f fd) : Nu.FnOk P w K mg base (L2N.CX P w) 4 f fd ["self", "signs", "passes"] (spM K ms_Chain___init__ m_Chain___init__) :=
  fn_body F sc_Chain___init__ rfl fun cdv A outer s H vs E hr => (dss_cons (ds_expr (de_call rfl (fv_check_signs_1 a) (hr.mono (by decide)) takes_cx rfl a.g_check_signs a.k_check_signs (dv_s (de_name (pv 1)) dv_nil))) (dss_cons (ds_expr (de_call rfl (fv_check_passes_2 a) (hr.mono (by decide)) takes_cx rfl a.g_check_passes a.k_check_passes (dv_s (de_name (pv 1)) (dv_s (de_name (pv 2)) dv_nil)))) (dss_cons (ds_setF rfl a.d_signs (pv 0) (de_name (pv 1))) (dss_cons (ds_setF rfl a.d_passes (pv 0) (de_name (pv 2))) (dss_cons (ds_setF rfl a.d_back (pv 0) (de_callB (cr_sum rfl) o_sum rfl a.f_sum boot_sum (da_cons (do_of (de_lc (own := [("each", 3)]) rfl sc_Chain___init__.nd (di_seq rfl (do_of (de_name (pv 2)))) (by kernel_rfl) (fun _ _ _ _ _ => (dg_name sc_Chain___init__.nd rfl (.inl rfl))) (fun _ _ _ _ _ => dts_nil) (fun _ _ _ _ _ => (de_fld rfl a.d_back (do_name (pv 3)))))) da_nil))) (dss_cons (ds_setF rfl a.d_ahead (pv 0) (de_callB (cr_sum rfl) o_sum rfl a.f_sum boot_sum (da_cons (do_of (de_lc (own := [("each", 3)]) rfl sc_Chain___init__.nd (di_seq rfl (do_of (de_name (pv 2)))) (by kernel_rfl) (fun _ _ _ _ _ => (dg_name sc_Chain___init__.nd rfl (.inl rfl))) (fun _ _ _ _ _ => dts_nil) (fun _ _ _ _ _ => (de_fld rfl a.d_ahead (do_name (pv 3)))))) da_nil))) (dss_cons (ds_setF rfl a.d_reach (pv 0) (de_add rfl (do_of (de_fld rfl a.d_back (do_name (pv 0)))) (do_of (de_fld rfl a.d_ahead (do_name (pv 0)))))) (dss_cons (ds_setF rfl a.d_form (pv 0) (de_tup (da_cons (do_of (de_name (pv 1))) (da_cons (do_of (de_callTy call_tuple_of o_tuple rfl a.f_tuple boot_tuple (da_cons (do_of (de_lc (own := [("each", 3)]) rfl sc_Chain___init__.nd (di_seq rfl (do_of (de_name (pv 2)))) (by kernel_rfl) (fun _ _ _ _ _ => (dg_name sc_Chain___init__.nd rfl (.inl rfl))) (fun _ _ _ _ _ => dts_nil) (fun _ _ _ _ _ => (de_fld rfl a.d_form (do_name (pv 3)))))) da_nil))) da_nil)))) (dss_one (ds_setF rfl a.d_start (pv 0) (de_mulT rfl (do_of (de_tup (da_cons (do_of de_str) da_nil))) (do_of (de_callB call_len o_len rfl a.f_len boot_len (da_cons (do_name (pv 2)) da_nil))))))))))))))
theorem fv_Chain___init___3 (a : Ax K mg) : FnV P w K mg base 4 (He.ma K (He.ga K "Chain") "__init__") 3 [] [] ms_Chain___init__ m_Chain___init__ :=
  let ⟨fd, F⟩ := a.F_Chain___init__
  ⟨fd, _, _, ok_Chain___init__ a F, bdD F [] (by simp) fun _ _ _ _ _ _ _ us ws its h1 h2 h3 => match us, ws, its, h1, h2, h3 with | [_, _, _], [], [_], _, _, _ => ⟨_, rfl, rfl⟩, .nil⟩
theorem mk_Chain___init___3 {X : Cx} (a : Ax X.K X.mg) : MkV X 4 "Chain" 2 [] [] ms_Chain___init__.tail m_Chain___init__ := ⟨_, a.mk_Chain, fv_Chain___init___3 a⟩
/-! ### is_pattern -/
theorem sc_is_pattern : FnScope ["signs", "length", "value", "part"] ["signs", "length", "value"] (defScope st_is_pattern) := ⟨rfl, rfl, rfl, by decide +kernel, rfl, by decide +kernel, by decide +kernel⟩
theorem ok_is_pattern (a : Ax K mg) {f : Addr} {fd : FuncData} (F : FunD K "is_pattern" "is_pattern" (defArgs st_is_pattern) (defBody st_is_pattern) (defScope st_is_pattern) [] [] f fd) : Nu.FnOk P w K mg base (L2N.CX P w) 2 f fd ["signs", "length", "value"] (spM K ms_is_pattern m_is_pattern) :=
  fn_body F sc_is_pattern rfl fun cdv A outer s H vs E hr => (dss_cons (ds_if (PW.pt (dw_or (dt_not (dt_val (de_callB call_isi o_isi rfl a.f_isinstance boot_isinstance (da_cons (do_name (pv 2)) (da_cons (do_of (de_ty rfl a.f_tuple boot_tuple)) da_nil))))) (dw_or1 (dt_cmp (op_neD (hu64 hr)) o_ne (do_of (de_callB call_len o_len rfl a.f_len boot_len (da_cons (do_name (pv 2)) da_nil))) (do_name (pv 1)) (nomark _))))) (dss_one (ds_ret de_bl)) dss_nil) (dss_one (ds_ret (de_callB (cr_all rfl) o_all rfl a.f_all boot_all (da_cons (do_of (de_lc (own := [("part", 3)]) rfl sc_is_pattern.nd (di_seq rfl (do_of (de_name (pv 2)))) (by kernel_rfl) (fun _ _ _ _ _ => (dg_name sc_is_pattern.nd rfl (.inl rfl))) (fun _ _ _ _ _ => dts_nil) (fun _ _ _ _ _ => (de_and (de_callB call_isi o_isi rfl a.f_isinstance boot_isinstance (da_cons (do_name (pv 3)) (da_cons (do_of (de_ty rfl a.f_str boot_str)) da_nil))) (de_one (de_call rfl (fv_are_unlike_signs_2 a) (hr.mono (by decide)) takes_in rfl a.g_are_unlike_signs a.k_are_unlike_signs (dv_s (de_name (pv 0)) (dv_s (de_name (pv 3)) dv_nil)))))))) da_nil)))))
theorem fv_is_pattern_3 (a : Ax K mg) : FnV P w K mg base 2 (He.ga K "is_pattern") 3 [] [] ms_is_pattern m_is_pattern :=
  let ⟨fd, F⟩ := a.F_is_pattern
  ⟨fd, _, _, ok_is_pattern a F, bdN F [] fun _ _ _ _ _ _ us ws h1 h2 => match us, ws, h1, h2 with | [_, _, _], [], _, _ => rfl, .nil⟩
/-! ### is_over -/
theorem sc_is_over : FnScope ["signs", "value", "sign"] ["signs", "value"] (defScope st_is_over) := ⟨rfl, rfl, rfl, by decide +kernel, rfl, by decide +kernel, by decide +kernel⟩
theorem ok_is_over (a : Ax K mg) {f : Addr} {fd : FuncData} (F : FunD K "is_over" "is_over" (defArgs st_is_over) (defBody st_is_over) (defScope st_is_over) [] [] f fd) : Nu.FnOk P w K mg base (L2N.CX P w) 1 f fd ["signs", "value"] (spM K ms_is_over m_is_over) :=
  fn_body F sc_is_over rfl fun cdv A outer s H vs E hr => (dss_one (ds_ret (de_and (de_callB call_isi o_isi rfl a.f_isinstance boot_isinstance (da_cons (do_name (pv 1)) (da_cons (do_of (de_ty rfl a.f_str boot_str)) da_nil))) (de_one (de_callB (cr_all rfl) o_all rfl a.f_all boot_all (da_cons (do_of (de_lc (own := [("sign", 2)]) rfl sc_is_over.nd (di_seq rfl (do_of (de_name (pv 1)))) (by kernel_rfl) (fun _ _ _ _ _ => (dg_name sc_is_over.nd rfl (.inl rfl))) (fun _ _ _ _ _ => dts_nil) (fun _ _ _ _ _ => (de_cmp (opr_in (hu65 hr)) o_in (do_name (pv 2)) (do_name (pv 0)) (by with_unfolding_all rfl))))) da_nil))))))
theorem fv_is_over_2 (a : Ax K mg) : FnV P w K mg base 1 (He.ga K "is_over") 2 [] [] ms_is_over m_is_over :=
  let ⟨fd, F⟩ := a.F_is_over
  ⟨fd, _, _, ok_is_over a F, bdN F [] fun _ _ _ _ _ _ us ws h1 h2 => match us, ws, h1, h2 with | [_, _], [], _, _ => rfl, .nil⟩
/-! ### is_sign -/
theorem sc_is_sign : FnScope ["signs", "value"] ["signs", "value"] (defScope st_is_sign) := ⟨rfl, rfl, rfl, by decide +kernel, rfl, by decide +kernel, by decide +kernel⟩
theorem ok_is_sign (a : Ax K mg) {f : Addr} {fd : FuncData} (F : FunD K "is_sign" "is_sign" (defArgs st_is_sign) (defBody st_is_sign) (defScope st_is_sign) [] [] f fd) : Nu.FnOk P w K mg base (L2N.CX P w) 2 f fd ["signs", "value"] (spM K ms_is_sign m_is_sign) :=
  fn_body F sc_is_sign rfl fun cdv A outer s H vs E hr => (dss_one (ds_ret (de_and (de_call rfl (fv_is_over_2 a) (hr.mono (by decide)) takes_cx rfl a.g_is_over a.k_is_over (dv_s (de_name (pv 0)) (dv_s (de_name (pv 1)) dv_nil))) (de_one (de_cmp (op_eqD (hu64 hr)) o_eq (do_of (de_callB call_len o_len rfl a.f_len boot_len (da_cons (do_name (pv 1)) da_nil))) (do_of de_int) (nomark _))))))
theorem fv_is_sign_2 (a : Ax K mg) : FnV P w K mg base 2 (He.ga K "is_sign") 2 [] [] ms_is_sign m_is_sign :=
  let ⟨fd, F⟩ := a.F_is_sign
  ⟨fd, _, _, ok_is_sign a F, bdN F [] fun _ _ _ _ _ _ us ws h1 h2 => match us, ws, h1, h2 with | [_, _], [], _, _ => rfl, .nil⟩
/-! ### is_rule -/
theorem sc_is_rule : FnScope ["signs", "length", "value"] ["signs", "length", "value"] (defScope st_is_rule) := ⟨rfl, rfl, rfl, by decide +kernel, rfl, by decide +kernel, by decide +kernel⟩
theorem ok_is_rule (a : Ax K mg) {f : Addr} {fd : FuncData} (F : FunD K "is_rule" "is_rule" (defArgs st_is_rule) (defBody st_is_rule) (defScope st_is_rule) [] [] f fd) : Nu.FnOk P w K mg base (L2N.CX P w) 3 f fd ["signs", "length", "value"] (spM K ms_is_rule m_is_rule) :=
  fn_body F sc_is_rule rfl fun cdv A outer s H vs E hr => (dss_cons (ds_if (PW.pt (dw_or (dt_not (dt_val (de_callB call_isi o_isi rfl a.f_isinstance boot_isinstance (da_cons (do_name (pv 2)) (da_cons (do_of (de_ty rfl a.f_tuple boot_tuple)) da_nil))))) (dw_or1 (dt_cmp (op_neD (hu64 hr)) o_ne (do_of (de_callB call_len o_len rfl a.f_len boot_len (da_cons (do_name (pv 2)) da_nil))) (do_of de_int) (nomark _))))) (dss_one (ds_ret de_bl)) dss_nil) (dss_one (ds_ret (de_and (de_call rfl (fv_is_pattern_3 a) (hr.mono (by decide)) takes_cx rfl a.g_is_pattern a.k_is_pattern (dv_s (de_name (pv 0)) (dv_s (de_name (pv 1)) (dv_s (de_ix ix_seq o_ix (do_name (pv 2)) (do_of de_int)) dv_nil)))) (de_one (de_call rfl (fv_is_sign_2 a) (hr.mono (by decide)) takes_cx rfl a.g_is_sign a.k_is_sign (dv_s (de_name (pv 0)) (dv_s (de_ix ix_seq o_ix (do_name (pv 2)) (do_of de_int)) dv_nil))))))))
theorem fv_is_rule_3 (a : Ax K mg) : FnV P w K mg base 3 (He.ga K "is_rule") 3 [] [] ms_is_rule m_is_rule :=
  let ⟨fd, F⟩ := a.F_is_rule
  ⟨fd, _, _, ok_is_rule a F, bdN F [] fun _ _ _ _ _ _ us ws h1 h2 => match us, ws, h1, h2 with | [_, _, _], [], _, _ => rfl, .nil⟩
/-! ### check_rules -/
theorem sc_check_rules : FnScope ["signs", "length", "rules", "index", "rule"] ["signs", "length", "rules"] (defScope st_check_rules) := ⟨rfl, rfl, rfl, by decide +kernel, rfl, by decide +kernel, by decide +kernel⟩
theorem ok_check_rules (a : Ax K mg) {f : Addr} {fd : FuncData} (F : FunD K "check_rules" "check_rules" (defArgs st_check_rules) (defBody st_check_rules) (defScope st_check_rules) [] [] f fd) : Nu.FnOk P w K mg base (L2N.CX P w) 4 f fd ["signs", "length", "rules"] (spM K ms_check_rules m_check_rules) :=
  fn_body F sc_check_rules rfl fun cdv A outer s H vs E hr => (dss_cons (ds_if (PW.pt (dw_or (dt_not (dt_val (de_callB call_isi o_isi rfl a.f_isinstance boot_isinstance (da_cons (do_name (pv 2)) (da_cons (do_of (de_ty rfl a.f_tuple boot_tuple)) da_nil))))) (dw_or1 (dt_cmp op_gt o_gt (do_of (de_callB call_len o_len rfl a.f_len boot_len (da_cons (do_name (pv 2)) da_nil))) (do_of (de_gint rfl a.c_MOST_RULES)) (nomark _))))) (dss_one ds_never) dss_nil) (dss_one (ds_pre (ds_for own_cx rfl (di_enum rfl rfl a.f_enumerate (da_cons (do_of (de_name (pv 2))) da_nil)) (dg_tup rfl (dgs_cons (dg_name sc_check_rules.nd rfl (.inl rfl)) (dgs_cons (dg_name sc_check_rules.nd rfl (.inl rfl)) dgs_nil))) (dss_wp (dss_one (ds_if (dt_not (dt_val (de_call rfl (fv_is_rule_3 a) (hr.mono (by decide)) takes_cx rfl a.g_is_rule a.k_is_rule (dv_s (de_name (pv 0)) (dv_s (de_name (pv 1)) (dv_s (de_name (pv 4)) dv_nil)))))) (dss_one ds_never) dss_nil)))))))
theorem fv_check_rules_3 (a : Ax K mg) : FnV P w K mg base 4 (He.ga K "check_rules") 3 [] [] ms_check_rules m_check_rules :=
  let ⟨fd, F⟩ := a.F_check_rules
  ⟨fd, _, _, ok_check_rules a F, bdN F [] fun _ _ _ _ _ _ us ws h1 h2 => match us, ws, h1, h2 with | [_, _, _], [], _, _ => rfl, .nil⟩
/-! ### is_integer -/
theorem sc_is_integer : FnScope ["value"] ["value"] (defScope st_is_integer) := ⟨rfl, rfl, rfl, by decide +kernel, rfl, by decide +kernel, by decide +kernel⟩
theorem ok_is_integer (a : Ax K mg) {f : Addr} {fd : FuncData} (F : FunD K "is_integer" "is_integer" (defArgs st_is_integer) (defBody st_is_integer) (defScope st_is_integer) [] [] f fd) : Nu.FnOk P w K mg base (L2N.CX P w) 1 f fd ["value"] (spM K ms_is_integer m_is_integer) :=
  fn_body F sc_is_integer rfl fun cdv A outer s H vs E hr => (dss_one (ds_ret (de_and (de_callB call_isi o_isi rfl a.f_isinstance boot_isinstance (da_cons (do_name (pv 0)) (da_cons (do_of (de_ty rfl a.f_int boot_int)) da_nil))) (de_one (de_not (de_callB call_isi o_isi rfl a.f_isinstance boot_isinstance (da_cons (do_name (pv 0)) (da_cons (do_of (de_ty rfl a.f_bool boot_bool)) da_nil))))))))
theorem fv_is_integer_1 (a : Ax K mg) : FnV P w K mg base 1 (He.ga K "is_integer") 1 [] [] ms_is_integer m_is_integer :=
  let ⟨fd, F⟩ := a.F_is_integer
  ⟨fd, _, _, ok_is_integer a F, bdN F [] fun _ _ _ _ _ _ us ws h1 h2 => match us, ws, h1, h2 with | [_], [], _, _ => rfl, .nil⟩
/-! ### is_number -/
theorem sc_is_number : FnScope ["value", "most"] ["value", "most"] (defScope st_is_number) := ⟨rfl, rfl, rfl, by decide +kernel, rfl, by decide +kernel, by decide +kernel⟩
theorem ok_is_number (a : Ax K mg) {f : Addr} {fd : FuncData} (F : FunD K "is_number" "is_number" (defArgs st_is_number) (defBody st_is_number) (defScope st_is_number) [.non] [] f fd) : Nu.FnOk P w K mg base (L2N.CX P w) 2 f fd ["value", "most"] (spM K ms_is_number m_is_number) :=
  fn_body F sc_is_number rfl fun cdv A outer s H vs E hr => (dss_one (ds_ret (de_and (de_call rfl (fv_is_integer_1 a) (hr.mono (by decide)) takes_cx rfl a.g_is_integer a.k_is_integer (dv_s (de_name (pv 0)) dv_nil)) (de_and (de_cmp op_ge o_ge (do_name (pv 0)) (do_of de_int) (nomark _)) (de_one (de_or (de_cmp opr_is o_is (do_name (pv 1)) (do_of de_non) (nomark _)) (de_one (de_cmp op_le o_le (do_name (pv 0)) (do_name (pv 1)) (nomark _)))))))))
theorem fv_is_number_2 (a : Ax K mg) : FnV P w K mg base 2 (He.ga K "is_number") 2 [] [] ms_is_number m_is_number :=
  let ⟨fd, F⟩ := a.F_is_number
  ⟨fd, _, _, ok_is_number a F, bdD F [] (by simp) fun _ _ _ _ _ _ _ us ws its h1 h2 h3 => match us, ws, its, h1, h2, h3 with | [_, _], [], [_], _, _, _ => ⟨_, rfl, rfl⟩, .nil⟩
/-! ### Pass.__init__ -/
theorem sc_Pass___init__ : FnScope ["self", "signs", "rules", "edge", "back", "ahead", "number"] ["self", "signs", "rules", "edge", "back", "ahead"] (defScope st_Pass___init__) := ⟨rfl, rfl, rfl, by decide +kernel, rfl, by decide +kernel, by decide +kernel⟩
theorem ok_Pass___init__ (a : Ax K mg) {f : Addr} {fd : FuncData} (F : FunD K "__init__" "Pass.__init__" (defArgs st_Pass___init__) (defBody st_Pass___init__) (defScope st_Pass___init__) [.non] [("back", .int 1), ("ahead", .int 1)] f fd) : Nu.FnOk P w K mg base (L2N.CX P w) 5 f fd ["self", "signs", "rules", "edge", "back", "ahead"] (spM K ms_Pass___init__ m_Pass___init__) :=
  fn_body F sc_Pass___init__ rfl fun cdv A outer s H vs E hr => (dss_cons (ds_expr (de_call rfl (fv_check_signs_1 a) (hr.mono (by decide)) takes_cx rfl a.g_check_signs a.k_check_signs (dv_s (de_name (pv 1)) dv_nil))) (dss_cons (ds_pre (ds_for own_cx rfl (di_seq rfl (do_of (de_tup (da_cons (do_of (de_name (pv 4))) (da_cons (do_of (de_name (pv 5))) da_nil))))) (dg_name sc_Pass___init__.nd rfl (.inl rfl)) (dss_wp (dss_one (ds_if (dt_not (dt_val (de_call rfl (fv_is_number_2 a) (hr.mono (by decide)) takes_cx rfl a.g_is_number a.k_is_number (dv_s (de_name (pv 6)) (dv_s (de_gint rfl a.c_MOST_REACH) dv_nil))))) (dss_one ds_never) dss_nil))))) (dss_cons (ds_expr (de_call rfl (fv_check_rules_3 a) (hr.mono (by decide)) takes_cx rfl a.g_check_rules a.k_check_rules (dv_s (de_name (pv 1)) (dv_s (de_add rfl (do_of (de_add rfl (do_name (pv 4)) (do_of de_int))) (do_name (pv 5))) (dv_s (de_name (pv 2)) dv_nil))))) (dss_cons (ds_if (PW.pt (dw_and (dt_cmp opr_not o_not (do_name (pv 3)) (do_of de_non) (nomark _)) (dw_and1 (dt_not (dt_val (de_call rfl (fv_is_sign_2 a) (hr.mono (by decide)) takes_cx rfl a.g_is_sign a.k_is_sign (dv_s (de_name (pv 1)) (dv_s (de_name (pv 3)) dv_nil)))))))) (dss_one ds_never) dss_nil) (dss_cons (ds_setF rfl a.d_signs (pv 0) (de_name (pv 1))) (dss_cons (ds_setF rfl a.d_rules (pv 0) (de_name (pv 2))) (dss_cons (ds_setF rfl a.d_edge (pv 0) (de_name (pv 3))) (dss_cons (ds_setF rfl a.d_back (pv 0) (de_name (pv 4))) (dss_cons (ds_setF rfl a.d_ahead (pv 0) (de_name (pv 5))) (dss_one (ds_setF rfl a.d_form (pv 0) (de_tup (da_cons (do_of (de_name (pv 1))) (da_cons (do_of (de_name (pv 2))) (da_cons (do_of (de_name (pv 3))) (da_cons (do_of (de_name (pv 4))) (da_cons (do_of (de_name (pv 5))) da_nil)))))))))))))))))
theorem fv_Pass___init___4_back_ahead (a : Ax K mg) : FnV P w K mg base 5 (He.ma K (He.ga K "Pass") "__init__") 4 ["back", "ahead"] [.inl 0, .inl 1] ms_Pass___init__ m_Pass___init__ :=
  let ⟨fd, F⟩ := a.F_Pass___init__
  ⟨fd, _, _, ok_Pass___init__ a F, bdD F [.kw 0, .kw 1] (by simp) fun _ _ _ _ _ _ _ us ws its h1 h2 h3 => match us, ws, its, h1, h2, h3 with | [_, _, _, _], [_, _], [_], _, _, _ => ⟨_, rfl, rfl⟩, .arg (.arg (.nil))⟩
theorem mk_Pass___init___4_back_ahead {X : Cx} (a : Ax X.K X.mg) : MkV X 5 "Pass" 3 ["back", "ahead"] [.inl 0, .inl 1] ms_Pass___init__.tail m_Pass___init__ := ⟨_, a.mk_Pass, fv_Pass___init___4_back_ahead a⟩
/-! ### _law_pass -/
theorem sc__law_pass : FnScope ["_law_form_here"] ["_law_form_here"] (defScope st__law_pass) := ⟨rfl, rfl, rfl, by decide +kernel, rfl, by decide +kernel, by decide +kernel⟩
theorem ok__law_pass (a : Ax K mg) {f : Addr} {fd : FuncData} (F : FunD K "_law_pass" "_law_pass" (defArgs st__law_pass) (defBody st__law_pass) (defScope st__law_pass) [] [] f fd) : Nu.FnOk P w K mg base (L2N.CX P w) 7 f fd ["_law_form_here"] (spM K ms__law_pass m__law_pass) :=
  fn_body F sc__law_pass rfl fun cdv A outer s H vs E hr => (dss_one (ds_ret (de_makeK rfl (mk_Pass___init___4_back_ahead a) (hr.mono (by decide)) takes_cx rfl a.g_Pass (dv_s (de_ix ix_seq o_ix (do_name (pv 0)) (do_of de_int)) (dv_s (de_ix ix_seq o_ix (do_name (pv 0)) (do_of de_int)) (dv_s (de_ix ix_seq o_ix (do_name (pv 0)) (do_of de_int)) dv_nil))) (dk_cons (do_of (de_ix ix_seq o_ix (do_name (pv 0)) (do_of de_int))) (dk_cons (do_of (de_ix ix_seq o_ix (do_name (pv 0)) (do_of de_int))) dk_nil)))))
theorem fv__law_pass_1 (a : Ax K mg) : FnV P w K mg base 7 (He.ga K "_law_pass") 1 [] [] ms__law_pass m__law_pass :=
  let ⟨fd, F⟩ := a.F__law_pass
  ⟨fd, _, _, ok__law_pass a F, bdN F [] fun _ _ _ _ _ _ us ws h1 h2 => match us, ws, h1, h2 with | [_], [], _, _ => rfl, .nil⟩
/-! ### _law_chain_of -/
theorem sc__law_chain_of : FnScope ["_law_letters", "_law_forms", "_law_form_here"] ["_law_letters", "_law_forms"] (defScope st__law_chain_of) := ⟨rfl, rfl, rfl, by decide +kernel, rfl, by decide +kernel, by decide +kernel⟩
theorem ok__law_chain_of (a : Ax K mg) {f : Addr} {fd : FuncData} (F : FunD K "_law_chain_of" "_law_chain_of" (defArgs st__law_chain_of) (defBody st__law_chain_of) (defScope st__law_chain_of) [] [] f fd) : Nu.FnOk P w K mg base (L2N.CX P w) 8 f fd ["_law_letters", "_law_forms"] (spM K ms__law_chain_of m__law_chain_of) :=
  fn_body F sc__law_chain_of rfl fun cdv A outer s H vs E hr => (dss_one (ds_ret (de_make rfl (mk_Chain___init___3 a) (hr.mono (by decide)) takes_cx rfl a.g_Chain (dv_s (de_name (pv 0)) (dv_s (de_callTy call_tuple_of o_tuple rfl a.f_tuple boot_tuple (da_cons (do_of (de_lc (own := [("_law_form_here", 2)]) rfl sc__law_chain_of.nd (di_seq rfl (do_of (de_name (pv 1)))) (by kernel_rfl) (fun _ _ _ _ _ => (dg_name sc__law_chain_of.nd rfl (.inl rfl))) (fun _ _ _ _ _ => dts_nil) (fun _ _ _ _ _ => (de_call rfl (fv__law_pass_1 a) (hr.mono (by decide)) takes_in rfl a.g__law_pass a.k__law_pass (dv_s (de_name (pv 2)) dv_nil))))) da_nil)) dv_nil)))))
theorem fv__law_chain_of_2 (a : Ax K mg) : FnV P w K mg base 8 (He.ga K "_law_chain_of") 2 [] [] ms__law_chain_of m__law_chain_of :=
  let ⟨fd, F⟩ := a.F__law_chain_of
  ⟨fd, _, _, ok__law_chain_of a F, bdN F [] fun _ _ _ _ _ _ us ws h1 h2 => match us, ws, h1, h2 with | [_, _], [], _, _ => rfl, .nil⟩
/-! ### _law_row -/
theorem sc__law_row : FnScope ["_law_bag_here", "_law_letters", "_law_far", "_law_k"] ["_law_bag_here", "_law_letters", "_law_far"] (defScope st__law_row) := ⟨rfl, rfl, rfl, by decide +kernel, rfl, by decide +kernel, by decide +kernel⟩
theorem ok__law_row (a : Ax K mg) {f : Addr} {fd : FuncData} (F : FunD K "_law_row" "_law_row" (defArgs st__law_row) (defBody st__law_row) (defScope st__law_row) [] [] f fd) : Nu.FnOk P w K mg base (L2N.CX P w) 3 f fd ["_law_bag_here", "_law_letters", "_law_far"] (spM K ms__law_row m__law_row) :=
  fn_body F sc__law_row rfl fun cdv A outer s H vs E hr => (dss_one (ds_ret (de_join rfl (do_of de_str) (do_of (de_lc (own := [("_law_k", 3)]) rfl sc__law_row.nd (di_rng1 rfl a.f_range (da_cons (do_of (de_call rfl (fv__law_draw_2 a) (hr.mono (by decide)) takes_cx rfl a.g__law_draw a.k__law_draw (dv_n (pv 0) (dv_s (de_add rfl (do_name (pv 2)) (do_of de_int)) dv_nil)))) da_nil)) (by kernel_rfl) (fun _ _ _ _ _ => (dg_name sc__law_row.nd rfl (.inl rfl))) (fun _ _ _ _ _ => dts_nil) (fun _ _ _ _ _ => (de_call rfl (fv__law_one_2 a) (hr.mono (by decide)) takes_in rfl a.g__law_one a.k__law_one (dv_n (pv 0) (dv_s (de_name (pv 1)) dv_nil)))))))))
theorem fv__law_row_3 (a : Ax K mg) : FnV P w K mg base 3 (He.ga K "_law_row") 3 [] [] ms__law_row m__law_row :=
  let ⟨fd, F⟩ := a.F__law_row
  ⟨fd, _, _, ok__law_row a F, bdN F [] fun _ _ _ _ _ _ us ws h1 h2 => match us, ws, h1, h2 with | [_, _, _], [], _, _ => rfl, .nil⟩
/-! ### _law_part -/
theorem sc__law_part : FnScope ["_law_bag_here", "_law_letters", "_law_way", "_law_first", "_law_mark"] ["_law_bag_here", "_law_letters"] (defScope st__law_part) := ⟨rfl, rfl, rfl, by decide +kernel, rfl, by decide +kernel, by decide +kernel⟩
theorem ok__law_part (a : Ax K mg) {f : Addr} {fd : FuncData} (F : FunD K "_law_part" "_law_part" (defArgs st__law_part) (defBody st__law_part) (defScope st__law_part) [] [] f fd) : Nu.FnOk P w K mg base (L2N.CX P w) 3 f fd ["_law_bag_here", "_law_letters"] (spM K ms__law_part m__law_part) :=
  fn_body F sc__law_part rfl fun cdv A outer s H vs E hr => (dss_cons (ds_asg (do_of (de_tup (da_cons (do_of (de_call rfl (fv__law_draw_2 a) (hr.mono (by decide)) takes_cx rfl a.g__law_draw a.k__law_draw (dv_n (pv 0) (dv_s de_int dv_nil)))) (da_cons (do_of (de_call rfl (fv__law_one_2 a) (hr.mono (by decide)) takes_cx rfl a.g__law_one a.k__law_one (dv_n (pv 0) (dv_s (de_name (pv 1)) dv_nil)))) da_nil)))) (dg_tup rfl (dgs_cons (dg_name sc__law_part.nd rfl (.inl rfl)) (dgs_cons (dg_name sc__law_part.nd rfl (.inr rfl)) dgs_nil)))) (dss_cons (ds_if (dt_cmp op_lt o_lt (do_name (pv 2)) (do_of de_int) (nomark _)) (dss_one (ds_ret de_str)) dss_nil) (dss_cons (ds_if (dt_cmp op_lt o_lt (do_name (pv 2)) (do_of de_int) (nomark _)) (dss_one (ds_retV (pv 3))) dss_nil) (dss_one (ds_ret (de_add rfl (do_name (pv 3)) (do_of (de_join rfl (do_of de_str) (do_of (de_lc (own := [("_law_mark", 4)]) rfl sc__law_part.nd (di_seq rfl (do_of (de_name (pv 1)))) (by kernel_rfl) (fun _ _ _ _ _ => (dg_name sc__law_part.nd rfl (.inl rfl))) (fun _ _ _ _ _ => (dts_one (PW.pt (dw_and (dt_cmp (op_neD (hu64 hr)) o_ne (do_name (pv 4)) (do_name (pv 3)) (nomark _)) (dw_and1 (dt_cmp (op_eqD (hu64 hr)) o_eq (do_of (de_call rfl (fv__law_draw_2 a) (hr.mono (by decide)) takes_in rfl a.g__law_draw a.k__law_draw (dv_n (pv 0) (dv_s de_int dv_nil)))) (do_of de_int) (nomark _))))))) (fun _ _ _ _ _ => (de_name (pv 4)))))))))))))
theorem fv__law_part_2 (a : Ax K mg) : FnV P w K mg base 3 (He.ga K "_law_part") 2 [] [] ms__law_part m__law_part :=
  let ⟨fd, F⟩ := a.F__law_part
  ⟨fd, _, _, ok__law_part a F, bdN F [] fun _ _ _ _ _ _ us ws h1 h2 => match us, ws, h1, h2 with | [_, _], [], _, _ => rfl, .nil⟩
/-! ### _law_form -/
theorem sc__law_form : FnScope ["_law_bag_here", "_law_letters", "_law_wide", "_law_before", "_law_later", "_law_book", "_law_turn", "_law_parts", "_law_k"] ["_law_bag_here", "_law_letters", "_law_wide"] (defScope st__law_form) := ⟨rfl, rfl, rfl, by decide +kernel, rfl, by decide +kernel, by decide +kernel⟩
theorem ok__law_form (a : Ax K mg) {f : Addr} {fd : FuncData} (F : FunD K "_law_form" "_law_form" (defArgs st__law_form) (defBody st__law_form) (defScope st__law_form) [] [] f fd) : Nu.FnOk P w K mg base (L2N.CX P w) 4 f fd ["_law_bag_here", "_law_letters", "_law_wide"] (spM K ms__law_form m__law_form) :=
  fn_body F sc__law_form rfl fun cdv A outer s H vs E hr => (dss_cons (ds_parV rfl sc__law_form.nd rfl rfl (by decide) rfl rfl (dv_e (de_call rfl (fv__law_draw_2 a) (hr.mono (by decide)) takes_cx rfl a.g__law_draw a.k__law_draw (dv_n (pv 0) (dv_s (de_add rfl (do_name (pv 2)) (do_of de_int)) dv_nil))) (dv_e (de_call rfl (fv__law_draw_2 a) (hr.mono (by decide)) takes_cx rfl a.g__law_draw a.k__law_draw (dv_n (pv 0) (dv_s (de_add rfl (do_name (pv 2)) (do_of de_int)) dv_nil))) dv_nil)) rfl) (dss_cons (ds_set sc__law_form.nd rfl (.inl rfl) (de_lst da_nil)) (dss_cons (ds_pre (ds_for own_cx rfl (di_rng1 rfl a.f_range (da_cons (do_of (de_add rfl (do_of de_int) (do_of (de_call rfl (fv__law_draw_2 a) (hr.mono (by decide)) takes_cx rfl a.g__law_draw a.k__law_draw (dv_n (pv 0) (dv_s de_int dv_nil)))))) da_nil)) (dg_name sc__law_form.nd rfl (.inl rfl)) (dss_wp (dss_cons (ds_setLc (own := [("_law_k", 8)]) rfl sc__law_form.nd rfl rfl rfl (di_rng1 rfl a.f_range (da_cons (do_of (de_add rfl (do_of (de_add rfl (do_name (pv 3)) (do_of de_int))) (do_name (pv 4)))) da_nil)) (by kernel_rfl) (fun _ _ _ _ _ => (dg_name sc__law_form.nd rfl (.inl rfl))) (fun _ _ _ _ _ => dts_nil) (fun _ _ _ _ _ => (de_call rfl (fv__law_part_2 a) (hr.mono (by decide)) takes_in rfl a.g__law_part a.k__law_part (dv_n (pv 0) (dv_s (de_name (pv 1)) dv_nil))))) (dss_one (ds_expr (de_append (pv 5) (da_cons (do_of (de_tup (da_cons (do_of (de_callTy call_tuple_of o_tuple rfl a.f_tuple boot_tuple (da_cons (do_name (pv 7)) da_nil))) (da_cons (do_of (de_call rfl (fv__law_one_2 a) (hr.mono (by decide)) takes_cx rfl a.g__law_one a.k__law_one (dv_n (pv 0) (dv_s (de_name (pv 1)) dv_nil)))) da_nil)))) da_nil)))))))) (dss_one (ds_ret (de_tup (da_cons (do_of (de_name (pv 1))) (da_cons (do_of (de_callTy call_tuple_of o_tuple rfl a.f_tuple boot_tuple (da_cons (do_name (pv 5)) da_nil))) (da_cons (do_of (de_call rfl (fv__law_one_2 a) (hr.mono (by decide)) takes_cx rfl a.g__law_one a.k__law_one (dv_n (pv 0) (dv_s (de_add rfl (do_of (de_lst (da_cons (do_of de_non) (da_cons (do_of de_non) da_nil)))) (do_of (de_callTy (call_list1 rfl) o_list rfl a.f_list boot_list (da_cons (do_name (pv 1)) da_nil)))) dv_nil)))) (da_cons (do_of (de_name (pv 3))) (da_cons (do_of (de_name (pv 4))) da_nil)))))))))))
theorem fv__law_form_3 (a : Ax K mg) : FnV P w K mg base 4 (He.ga K "_law_form") 3 [] [] ms__law_form m__law_form :=
  let ⟨fd, F⟩ := a.F__law_form
  ⟨fd, _, _, ok__law_form a F, bdN F [] fun _ _ _ _ _ _ us ws h1 h2 => match us, ws, h1, h2 with | [_, _, _], [], _, _ => rfl, .nil⟩
/-! ### _law_parted -/
theorem sc__law_parted : FnScope ["_law_book", "_law_found", "_law_pattern", "_law_mark", "_law_lines", "_law_part_here", "_law_some", "_law_lists", "_law_line", "_law_each"] ["_law_book"] (defScope st__law_parted) := ⟨rfl, rfl, rfl, by decide +kernel, rfl, by decide +kernel, by decide +kernel⟩
theorem ok__law_parted (a : Ax K mg) {f : Addr} {fd : FuncData} (F : FunD K "_law_parted" "_law_parted" (defArgs st__law_parted) (defBody st__law_parted) (defScope st__law_parted) [] [] f fd) : Nu.FnOk P w K mg base (L2N.CX P w) 1 f fd ["_law_book"] (spM K ms__law_parted m__law_parted) :=
  fn_body F sc__law_parted rfl fun cdv A outer s H vs E hr => (dss_cons (ds_set sc__law_parted.nd rfl (.inl rfl) (de_lst da_nil)) (dss_cons (ds_pre (ds_for own_cx rfl (di_seq rfl (do_of (de_name (pv 0)))) (dg_tup rfl (dgs_cons (dg_name sc__law_parted.nd rfl (.inl rfl)) (dgs_cons (dg_name sc__law_parted.nd rfl (.inr rfl)) dgs_nil))) (dss_wp (dss_cons (ds_set sc__law_parted.nd rfl (.inl rfl) (de_lst (da_cons (do_of (de_tup da_nil)) da_nil))) (dss_cons (ds_pre (ds_for own_cx rfl (di_seq rfl (do_of (de_name (pv 2)))) (dg_name sc__law_parted.nd rfl (.inl rfl)) (dss_wp (dss_cons (ds_parV rfl sc__law_parted.nd rfl rfl (by decide) rfl rfl (dv_e (de_lst (da_cons (do_of (de_name (pv 5))) da_nil)) (dv_e (de_lst da_nil) dv_nil)) rfl) (dss_cons (ds_if (PW.pt (dw_and (dt_cmp op_gt o_gt (do_of (de_callB call_len o_len rfl a.f_len boot_len (da_cons (do_name (pv 5)) da_nil))) (do_of de_int) (nomark _)) (dw_and1 (dt_cmp op_lt o_lt (do_of (de_mulT rfl (do_of (de_callB call_len o_len rfl a.f_len boot_len (da_cons (do_name (pv 4)) da_nil))) (do_of (de_callB call_len o_len rfl a.f_len boot_len (da_cons (do_name (pv 5)) da_nil))))) (do_of de_int) (nomark _))))) (dss_one (ds_set sc__law_parted.nd rfl (.inl rfl) (de_callTy (call_list1 rfl) o_list rfl a.f_list boot_list (da_cons (do_name (pv 5)) da_nil)))) dss_nil) (dss_cons (ds_pre (ds_for own_cx rfl (di_seq rfl (do_of (de_name (pv 4)))) (dg_name sc__law_parted.nd rfl (.inr rfl)) (dss_wp (dss_one (ds_set sc__law_parted.nd rfl (.inl rfl) (de_add rfl (do_name (pv 7)) (do_of (de_lc (own := [("_law_each", 9)]) rfl sc__law_parted.nd (di_seq rfl (do_of (de_name (pv 6)))) (by kernel_rfl) (fun _ _ _ _ _ => (dg_name sc__law_parted.nd rfl (.inl rfl))) (fun _ _ _ _ _ => dts_nil) (fun _ _ _ _ _ => (de_add rfl (do_name (pv 8)) (do_of (de_tup (da_cons (do_of (de_name (pv 9))) da_nil))))))))))))) (dss_one (ds_set sc__law_parted.nd rfl (.inl rfl) (de_name (pv 7)))))))))) (dss_one (ds_set sc__law_parted.nd rfl (.inl rfl) (de_add rfl (do_name (pv 1)) (do_of (de_lc (own := [("_law_line", 8)]) rfl sc__law_parted.nd (di_seq rfl (do_of (de_name (pv 4)))) (by kernel_rfl) (fun _ _ _ _ _ => (dg_name sc__law_parted.nd rfl (.inl rfl))) (fun _ _ _ _ _ => dts_nil) (fun _ _ _ _ _ => (de_tup (da_cons (do_of (de_name (pv 8))) (da_cons (do_of (de_name (pv 3))) da_nil)))))))))))))) (dss_one (ds_ret (de_callTy call_tuple_of o_tuple rfl a.f_tuple boot_tuple (da_cons (do_name (pv 1)) da_nil))))))
theorem fv__law_parted_1 (a : Ax K mg) : FnV P w K mg base 1 (He.ga K "_law_parted") 1 [] [] ms__law_parted m__law_parted :=
  let ⟨fd, F⟩ := a.F__law_parted
  ⟨fd, _, _, ok__law_parted a F, bdN F [] fun _ _ _ _ _ _ us ws h1 h2 => match us, ws, h1, h2 with | [_], [], _, _ => rfl, .nil⟩
/-! ### _law_otherwise -/
theorem sc__law_otherwise : FnScope ["_law_bag_here", "_law_form_here", "_law_letters", "_law_book", "_law_rim", "_law_before", "_law_later", "_law_way", "_law_more", "_law_found", "_law_stay", "_law_every", "_law_rule", "_law_mark", "_law_pattern", "_law_part_here"] ["_law_bag_here", "_law_form_here"] (defScope st__law_otherwise) := ⟨rfl, rfl, rfl, by decide +kernel, rfl, by decide +kernel, by decide +kernel⟩
theorem ok__law_otherwise (a : Ax K mg) {f : Addr} {fd : FuncData} (F : FunD K "_law_otherwise" "_law_otherwise" (defArgs st__law_otherwise) (defBody st__law_otherwise) (defScope st__law_otherwise) [] [] f fd) : Nu.FnOk P w K mg base (L2N.CX P w) 3 f fd ["_law_bag_here", "_law_form_here"] (spM K ms__law_otherwise m__law_otherwise) :=
  fn_body F sc__law_otherwise rfl fun cdv A outer s H vs E hr => (dss_cons (ds_asg (do_of (de_name (pv 1))) (dg_tup rfl (dgs_cons (dg_name sc__law_otherwise.nd rfl (.inr rfl)) (dgs_cons (dg_name sc__law_otherwise.nd rfl (.inl rfl)) (dgs_cons (dg_name sc__law_otherwise.nd rfl (.inl rfl)) (dgs_cons (dg_name sc__law_otherwise.nd rfl (.inr rfl)) (dgs_cons (dg_name sc__law_otherwise.nd rfl (.inr rfl)) dgs_nil))))))) (dss_cons (ds_set sc__law_otherwise.nd rfl (.inl rfl) (de_call rfl (fv__law_draw_2 a) (hr.mono (by decide)) takes_cx rfl a.g__law_draw a.k__law_draw (dv_n (pv 0) (dv_s de_int dv_nil)))) (dss_cons (ds_if (dt_cmp (op_eqD (hu64 hr)) o_eq (do_name (pv 7)) (do_of de_int) (nomark _)) (dss_cons (ds_set sc__law_otherwise.nd rfl (.inl rfl) (de_callTy call_tuple_of o_tuple rfl a.f_tuple boot_tuple (da_cons (do_of (de_lc (own := [("_law_rule", 12)]) rfl sc__law_otherwise.nd (di_seq rfl (do_of (de_name (pv 3)))) (by kernel_rfl) (fun _ _ _ _ _ => (dg_name sc__law_otherwise.nd rfl (.inl rfl))) (fun _ _ _ _ _ => dts_nil) (fun _ _ _ _ _ => (de_tup (da_cons (do_of (de_ix ix_seq o_ix (do_name (pv 12)) (do_of de_int))) (da_cons (do_of (de_call rfl (fv__law_one_2 a) (hr.mono (by decide)) takes_in rfl a.g__law_one a.k__law_one (dv_n (pv 0) (dv_s (de_name (pv 2)) dv_nil)))) da_nil)))))) da_nil))) (dss_one (ds_ret (de_tup (da_cons (do_of (de_name (pv 2))) (da_cons (do_of (de_slice sl_1 o_sl (do_of (de_add rfl (do_name (pv 3)) (do_name (pv 8)))) dp_none (dp_some de_int))) (da_cons (do_of (de_name (pv 4))) (da_cons (do_of (de_name (pv 5))) (da_cons (do_of (de_name (pv 6))) da_nil))))))))) dss_nil) (dss_cons (ds_if (dt_cmp (op_eqD (hu64 hr)) o_eq (do_name (pv 7)) (do_of de_int) (nomark _)) (dss_cons (ds_set sc__law_otherwise.nd rfl (.inl rfl) (de_call rfl (fv__law_parted_1 a) (hr.mono (by decide)) takes_cx rfl a.g__law_parted a.k__law_parted (dv_s (de_name (pv 3)) dv_nil))) (dss_one (ds_ret (de_tup (da_cons (do_of (de_name (pv 2))) (da_cons (do_of (de_ifE (dt_cmp op_lt o_lt (do_of (de_callB call_len o_len rfl a.f_len boot_len (da_cons (do_name (pv 9)) da_nil))) (do_of de_int) (nomark _)) (de_name (pv 9)) (de_name (pv 3)))) (da_cons (do_of (de_name (pv 4))) (da_cons (do_of (de_name (pv 5))) (da_cons (do_of (de_name (pv 6))) da_nil))))))))) dss_nil) (dss_cons (ds_if (dt_cmp (op_eqD (hu64 hr)) o_eq (do_name (pv 7)) (do_of de_int) (nomark _)) (dss_cons (ds_set sc__law_otherwise.nd rfl (.inl rfl) (de_callTy call_tuple_of o_tuple rfl a.f_tuple boot_tuple (da_cons (do_of (de_lc (own := [("_law_mark", 13)]) rfl sc__law_otherwise.nd (di_seq rfl (do_of (de_name (pv 2)))) (by kernel_rfl) (fun _ _ _ _ _ => (dg_name sc__law_otherwise.nd rfl (.inl rfl))) (fun _ _ _ _ _ => dts_nil) (fun _ _ _ _ _ => (de_add rfl (do_of (de_add rfl (do_of (de_mulT rfl (do_of (de_tup (da_cons (do_of de_str) da_nil))) (do_name (pv 5)))) (do_of (de_tup (da_cons (do_of (de_name (pv 13))) da_nil))))) (do_of (de_mulT rfl (do_of (de_tup (da_cons (do_of de_str) da_nil))) (do_name (pv 6)))))))) da_nil))) (dss_one (ds_ret (de_tup (da_cons (do_of (de_name (pv 2))) (da_cons (do_of (de_add rfl (do_name (pv 3)) (do_of (de_callTy call_tuple_of o_tuple rfl a.f_tuple boot_tuple (da_cons (do_of (de_lc (own := [("_law_pattern", 14)]) rfl sc__law_otherwise.nd (di_seq rfl (do_of (de_name (pv 10)))) (by kernel_rfl) (fun _ _ _ _ _ => (dg_name sc__law_otherwise.nd rfl (.inl rfl))) (fun _ _ _ _ _ => dts_nil) (fun _ _ _ _ _ => (de_tup (da_cons (do_of (de_name (pv 14))) (da_cons (do_of (de_ix ix_seq o_ix (do_name (pv 14)) (do_name (pv 5)))) da_nil)))))) da_nil))))) (da_cons (do_of (de_name (pv 4))) (da_cons (do_of (de_name (pv 5))) (da_cons (do_of (de_name (pv 6))) da_nil))))))))) dss_nil) (dss_cons (ds_set sc__law_otherwise.nd rfl (.inl rfl) (de_callTy call_tuple_of o_tuple rfl a.f_tuple boot_tuple (da_cons (do_of (de_lc (own := [("_law_pattern", 14), ("_law_mark", 13)]) rfl sc__law_otherwise.nd (di_seq rfl (do_of (de_name (pv 3)))) (by kernel_rfl) (fun _ _ _ _ _ => (dg_tup rfl (dgs_cons (dg_name sc__law_otherwise.nd rfl (.inl rfl)) (dgs_cons (dg_name sc__law_otherwise.nd rfl (.inl rfl)) dgs_nil)))) (fun _ _ _ _ _ => dts_nil) (fun _ _ _ _ _ => (de_tup (da_cons (do_of (de_callTy call_tuple_of o_tuple rfl a.f_tuple boot_tuple (da_cons (do_of (de_lc (own := [("_law_part_here", 15)]) rfl sc__law_otherwise.nd (di_seq rfl (do_of (de_name (pv 14)))) (by kernel_rfl) (fun _ _ _ _ _ => (dg_name sc__law_otherwise.nd rfl (.inl rfl))) (fun _ _ _ _ _ => dts_nil) (fun _ _ _ _ _ => (de_orS rfl (de_name (pv 15)) (de_one (de_name (pv 2))))))) da_nil))) (da_cons (do_of (de_name (pv 13))) da_nil)))))) da_nil))) (dss_one (ds_ret (de_tup (da_cons (do_of (de_name (pv 2))) (da_cons (do_of (de_name (pv 11))) (da_cons (do_of (de_name (pv 4))) (da_cons (do_of (de_name (pv 5))) (da_cons (do_of (de_name (pv 6))) da_nil))))))))))))))
theorem fv__law_otherwise_2 (a : Ax K mg) : FnV P w K mg base 3 (He.ga K "_law_otherwise") 2 [] [] ms__law_otherwise m__law_otherwise :=
  let ⟨fd, F⟩ := a.F__law_otherwise
  ⟨fd, _, _, ok__law_otherwise a F, bdN F [] fun _ _ _ _ _ _ us ws h1 h2 => match us, ws, h1, h2 with | [_, _], [], _, _ => rfl, .nil⟩
/-! ### Chain.__eq__ -/
theorem sc_Chain___eq__ : FnScope ["self", "other"] ["self", "other"] (defScope st_Chain___eq__) := ⟨rfl, rfl, rfl, by decide +kernel, rfl, by decide +kernel, by decide +kernel⟩
theorem ok_Chain___eq__ (a : Ax K mg) {f : Addr} {fd : FuncData} (F : FunD K "__eq__" "Chain.__eq__" (defArgs st_Chain___eq__) (defBody st_Chain___eq__) (defScope st_Chain___eq__) [] [] f fd) : Nu.FnOk P w K mg base (L2N.CX P w) 1 f fd ["self", "other"] (spM K ms_Chain___eq__ m_Chain___eq__) :=
  fn_body F sc_Chain___eq__ rfl fun cdv A outer s H vs E hr => (dss_one (ds_ret (de_and (de_isC rfl a.i_Chain rfl a.f_isinstance boot_isinstance rfl a.g_Chain (do_name (pv 1))) (de_one (de_cmp (op_eqD (hu64 hr)) o_eq (do_of (de_fld rfl a.d_form (do_name (pv 0)))) (do_of (de_fld rfl a.d_form (do_name (pv 1)))) (nomark _))))))
theorem fv_Chain___eq___2 (a : Ax K mg) : FnV P w K mg base 1 (He.ma K (He.ga K "Chain") "__eq__") 2 [] [] ms_Chain___eq__ m_Chain___eq__ :=
  let ⟨fd, F⟩ := a.F_Chain___eq__
  ⟨fd, _, _, ok_Chain___eq__ a F, bdN F [] fun _ _ _ _ _ _ us ws h1 h2 => match us, ws, h1, h2 with | [_, _], [], _, _ => rfl, .nil⟩
theorem ot_eq_2_Chain {X : Cx} (a : Ax X.K X.mg) : OpOk X 1 tab_eq_2_Chain "__eq__" 2 := by
  intro c mi h
  unfold tab_eq_2_Chain at h
  by_cases e : c = "Chain"
  · rw [if_pos e] at h; cases h; subst e; exact ⟨a.o_Chain___eq__, (fv_Chain___eq___2 a).mono (by decide)⟩
  rw [if_neg e] at h
  cases h
theorem on_eq_2_Chain {X : Cx} (a : Ax X.K X.mg) : NeOk X tab_eq_2_Chain := by
  intro c mi h
  unfold tab_eq_2_Chain at h
  by_cases e : c = "Chain"
  · subst e; exact a.n_Chain
  rw [if_neg e] at h
  cases h
/-! ### _law_longer -/
theorem sc__law_longer : FnScope ["_law_words", "_law_letters", "_law_found", "_law_word", "_law_mark"] ["_law_words", "_law_letters"] (defScope st__law_longer) := ⟨rfl, rfl, rfl, by decide +kernel, rfl, by decide +kernel, by decide +kernel⟩
theorem ok__law_longer (a : Ax K mg) {f : Addr} {fd : FuncData} (F : FunD K "_law_longer" "_law_longer" (defArgs st__law_longer) (defBody st__law_longer) (defScope st__law_longer) [] [] f fd) : Nu.FnOk P w K mg base (L2N.CX P w) 1 f fd ["_law_words", "_law_letters"] (spM K ms__law_longer m__law_longer) :=
  fn_body F sc__law_longer rfl fun cdv A outer s H vs E hr => (dss_cons (ds_set sc__law_longer.nd rfl (.inl rfl) (de_lst da_nil)) (dss_cons (ds_pre (ds_for own_cx rfl (di_seq rfl (do_of (de_name (pv 0)))) (dg_name sc__law_longer.nd rfl (.inr rfl)) (dss_wp (dss_one (ds_set sc__law_longer.nd rfl (.inl rfl) (de_add rfl (do_name (pv 2)) (do_of (de_lc (own := [("_law_mark", 4)]) rfl sc__law_longer.nd (di_seq rfl (do_of (de_name (pv 1)))) (by kernel_rfl) (fun _ _ _ _ _ => (dg_name sc__law_longer.nd rfl (.inl rfl))) (fun _ _ _ _ _ => dts_nil) (fun _ _ _ _ _ => (de_add rfl (do_name (pv 3)) (do_name (pv 4)))))))))))) (dss_one (ds_retV (pv 2)))))
theorem fv__law_longer_2 (a : Ax K mg) : FnV P w K mg base 1 (He.ga K "_law_longer") 2 [] [] ms__law_longer m__law_longer :=
  let ⟨fd, F⟩ := a.F__law_longer
  ⟨fd, _, _, ok__law_longer a F, bdN F [] fun _ _ _ _ _ _ us ws h1 h2 => match us, ws, h1, h2 with | [_, _], [], _, _ => rfl, .nil⟩
/-! ### _law_all -/
theorem sc__law_all : FnScope ["_law_letters", "_law_far", "_law_layer", "_law_found", "_law_turn"] ["_law_letters", "_law_far"] (defScope st__law_all) := ⟨rfl, rfl, rfl, by decide +kernel, rfl, by decide +kernel, by decide +kernel⟩
theorem ok__law_all (a : Ax K mg) {f : Addr} {fd : FuncData} (F : FunD K "_law_all" "_law_all" (defArgs st__law_all) (defBody st__law_all) (defScope st__law_all) [] [] f fd) : Nu.FnOk P w K mg base (L2N.CX P w) 2 f fd ["_law_letters", "_law_far"] (spM K ms__law_all m__law_all) :=
  fn_body F sc__law_all rfl fun cdv A outer s H vs E hr => (dss_cons (ds_parV rfl sc__law_all.nd rfl rfl (by decide) rfl rfl (dv_e (de_lst (da_cons (do_of de_str) da_nil)) (dv_e (de_lst (da_cons (do_of de_str) da_nil)) dv_nil)) rfl) (dss_cons (ds_pre (ds_for own_cx rfl (di_rng1 rfl a.f_range (da_cons (do_of (de_name (pv 1))) da_nil)) (dg_name sc__law_all.nd rfl (.inl rfl)) (dss_wp (dss_cons (ds_set sc__law_all.nd rfl (.inl rfl) (de_call rfl (fv__law_longer_2 a) (hr.mono (by decide)) takes_cx rfl a.g__law_longer a.k__law_longer (dv_s (de_name (pv 2)) (dv_s (de_name (pv 0)) dv_nil)))) (dss_one (ds_set sc__law_all.nd rfl (.inl rfl) (de_add rfl (do_name (pv 3)) (do_name (pv 2))))))))) (dss_one (ds_retV (pv 3)))))
theorem fv__law_all_2 (a : Ax K mg) : FnV P w K mg base 2 (He.ga K "_law_all") 2 [] [] ms__law_all m__law_all :=
  let ⟨fd, F⟩ := a.F__law_all
  ⟨fd, _, _, ok__law_all a F, bdN F [] fun _ _ _ _ _ _ us ws h1 h2 => match us, ws, h1, h2 with | [_, _], [], _, _ => rfl, .nil⟩
/-! ### _law_give -/
theorem sc__law_give : FnScope ["_law_form_here", "_law_near", "_law_pattern", "_law_mark", "_law_k", "_law_part_here"] ["_law_form_here", "_law_near"] (defScope st__law_give) := ⟨rfl, rfl, rfl, by decide +kernel, rfl, by decide +kernel, by decide +kernel⟩
theorem ok__law_give (a : Ax K mg) {f : Addr} {fd : FuncData} (F : FunD K "_law_give" "_law_give" (defArgs st__law_give) (defBody st__law_give) (defScope st__law_give) [] [] f fd) : Nu.FnOk P w K mg base (L2N.CX P w) 1 f fd ["_law_form_here", "_law_near"] (spM K ms__law_give m__law_give) :=
  fn_body F sc__law_give rfl fun cdv A outer s H vs E hr => (dss_cons (ds_pre (ds_for own_cx rfl (di_seq rfl (do_of (de_ix ix_seq o_ix (do_name (pv 0)) (do_of de_int)))) (dg_tup rfl (dgs_cons (dg_name sc__law_give.nd rfl (.inl rfl)) (dgs_cons (dg_name sc__law_give.nd rfl (.inl rfl)) dgs_nil))) (dss_wp (dss_one (ds_if (dt_val (de_callB (cr_all rfl) o_all rfl a.f_all boot_all (da_cons (do_of (de_lc (own := [("_law_k", 4), ("_law_part_here", 5)]) rfl sc__law_give.nd (di_enum rfl rfl a.f_enumerate (da_cons (do_of (de_name (pv 2))) da_nil)) (by kernel_rfl) (fun _ _ _ _ _ => (dg_tup rfl (dgs_cons (dg_name sc__law_give.nd rfl (.inl rfl)) (dgs_cons (dg_name sc__law_give.nd rfl (.inl rfl)) dgs_nil)))) (fun _ _ _ _ _ => dts_nil) (fun _ _ _ _ _ => (de_or (de_cmp (op_eqD (hu64 hr)) o_eq (do_name (pv 5)) (do_of de_str) (nomark _)) (de_one (de_cmp (opr_in (hu65 hr)) o_in (do_of (de_ix ix_seq o_ix (do_name (pv 1)) (do_name (pv 4)))) (do_name (pv 5)) (by with_unfolding_all rfl))))))) da_nil))) (dss_one (ds_retV (pv 3))) dss_nil))))) (dss_one (ds_ret (de_ix ix_seq o_ix (do_name (pv 1)) (do_of (de_ix ix_seq o_ix (do_name (pv 0)) (do_of de_int)))))))
theorem fv__law_give_2 (a : Ax K mg) : FnV P w K mg base 1 (He.ga K "_law_give") 2 [] [] ms__law_give m__law_give :=
  let ⟨fd, F⟩ := a.F__law_give
  ⟨fd, _, _, ok__law_give a F, bdN F [] fun _ _ _ _ _ _ us ws h1 h2 => match us, ws, h1, h2 with | [_, _], [], _, _ => rfl, .nil⟩
/-! ### _law_window -/
theorem sc__law_window : FnScope ["_law_form_here", "_law_line", "_law_place", "_law_found", "_law_spot"] ["_law_form_here", "_law_line", "_law_place"] (defScope st__law_window) := ⟨rfl, rfl, rfl, by decide +kernel, rfl, by decide +kernel, by decide +kernel⟩
theorem ok__law_window (a : Ax K mg) {f : Addr} {fd : FuncData} (F : FunD K "_law_window" "_law_window" (defArgs st__law_window) (defBody st__law_window) (defScope st__law_window) [] [] f fd) : Nu.FnOk P w K mg base (L2N.CX P w) 1 f fd ["_law_form_here", "_law_line", "_law_place"] (spM K ms__law_window m__law_window) :=
  fn_body F sc__law_window rfl fun cdv A outer s H vs E hr => (dss_cons (ds_set sc__law_window.nd rfl (.inl rfl) de_str) (dss_cons (ds_pre (ds_for own_cx rfl (di_rng2 rfl a.f_range (da_cons (do_of (de_sub (do_name (pv 2)) (do_of (de_ix ix_seq o_ix (do_name (pv 0)) (do_of de_int))))) (da_cons (do_of (de_add rfl (do_of (de_add rfl (do_name (pv 2)) (do_of (de_ix ix_seq o_ix (do_name (pv 0)) (do_of de_int))))) (do_of de_int))) da_nil))) (dg_name sc__law_window.nd rfl (.inl rfl)) (dss_wp (dss_one (ds_if (dt_chain op_le o_le op_lt o_lt (do_of de_int) (do_name (pv 4)) (do_of (de_callB call_len o_len rfl a.f_len boot_len (da_cons (do_name (pv 1)) da_nil)))) (dss_one (ds_set sc__law_window.nd rfl (.inl rfl) (de_add rfl (do_name (pv 3)) (do_of (de_ix ix_seq o_ix (do_name (pv 1)) (do_name (pv 4))))))) (dss_one (ds_if (dt_cmp opr_not o_not (do_of (de_ix ix_seq o_ix (do_name (pv 0)) (do_of de_int))) (do_of de_non) (nomark _)) (dss_one (ds_set sc__law_window.nd rfl (.inl rfl) (de_add rfl (do_name (pv 3)) (do_of (de_ix ix_seq o_ix (do_name (pv 0)) (do_of de_int)))))) (dss_one (ds_set sc__law_window.nd rfl (.inl rfl) (de_add rfl (do_name (pv 3)) (do_of (de_ifE (dt_cmp op_lt o_lt (do_name (pv 4)) (do_of de_int) (nomark _)) (de_ix ix_seq o_ix (do_name (pv 1)) (do_of de_int)) (de_ix ix_seq o_ix (do_name (pv 1)) (do_of (de_neg de_int))))))))))))))) (dss_one (ds_retV (pv 3)))))
theorem fv__law_window_3 (a : Ax K mg) : FnV P w K mg base 1 (He.ga K "_law_window") 3 [] [] ms__law_window m__law_window :=
  let ⟨fd, F⟩ := a.F__law_window
  ⟨fd, _, _, ok__law_window a F, bdN F [] fun _ _ _ _ _ _ us ws h1 h2 => match us, ws, h1, h2 with | [_, _, _], [], _, _ => rfl, .nil⟩
/-! ### _law_out -/
theorem sc__law_out : FnScope ["_law_forms", "_law_line", "_law_form_here", "_law_place"] ["_law_forms", "_law_line"] (defScope st__law_out) := ⟨rfl, rfl, rfl, by decide +kernel, rfl, by decide +kernel, by decide +kernel⟩
theorem ok__law_out (a : Ax K mg) {f : Addr} {fd : FuncData} (F : FunD K "_law_out" "_law_out" (defArgs st__law_out) (defBody st__law_out) (defScope st__law_out) [] [] f fd) : Nu.FnOk P w K mg base (L2N.CX P w) 2 f fd ["_law_forms", "_law_line"] (spM K ms__law_out m__law_out) :=
  fn_body F sc__law_out rfl fun cdv A outer s H vs E hr => (dss_cons (ds_pre (ds_for own_cx rfl (di_seq rfl (do_of (de_name (pv 0)))) (dg_name sc__law_out.nd rfl (.inr rfl)) (dss_wp (dss_one (ds_set sc__law_out.nd rfl (.inr rfl) (de_join rfl (do_of de_str) (do_of (de_lc (own := [("_law_place", 3)]) rfl sc__law_out.nd (di_rng1 rfl a.f_range (da_cons (do_of (de_callB call_len o_len rfl a.f_len boot_len (da_cons (do_name (pv 1)) da_nil))) da_nil)) (by kernel_rfl) (fun _ _ _ _ _ => (dg_name sc__law_out.nd rfl (.inl rfl))) (fun _ _ _ _ _ => dts_nil) (fun _ _ _ _ _ => (de_call rfl (fv__law_give_2 a) (hr.mono (by decide)) takes_in rfl a.g__law_give a.k__law_give (dv_s (de_name (pv 2)) (dv_s (de_call rfl (fv__law_window_3 a) (hr.mono (by decide)) takes_in rfl a.g__law_window a.k__law_window (dv_s (de_name (pv 2)) (dv_s (de_name (pv 1)) (dv_s (de_name (pv 3)) dv_nil)))) dv_nil)))))))))))) (dss_one (ds_retV (pv 1))))
theorem fv__law_out_2 (a : Ax K mg) : FnV P w K mg base 2 (He.ga K "_law_out") 2 [] [] ms__law_out m__law_out :=
  let ⟨fd, F⟩ := a.F__law_out
  ⟨fd, _, _, ok__law_out a F, bdN F [] fun _ _ _ _ _ _ us ws h1 h2 => match us, ws, h1, h2 with | [_, _], [], _, _ => rfl, .nil⟩
/-! ### check_row -/
theorem sc_check_row : FnScope ["signs", "row"] ["signs", "row"] (defScope st_check_row) := ⟨rfl, rfl, rfl, by decide +kernel, rfl, by decide +kernel, by decide +kernel⟩
theorem ok_check_row (a : Ax K mg) {f : Addr} {fd : FuncData} (F : FunD K "check_row" "check_row" (defArgs st_check_row) (defBody st_check_row) (defScope st_check_row) [] [] f fd) : Nu.FnOk P w K mg base (L2N.CX P w) 2 f fd ["signs", "row"] (spM K ms_check_row m_check_row) :=
  fn_body F sc_check_row rfl fun cdv A outer s H vs E hr => (dss_one (ds_if (dt_not (dt_val (de_call rfl (fv_is_over_2 a) (hr.mono (by decide)) takes_cx rfl a.g_is_over a.k_is_over (dv_s (de_name (pv 0)) (dv_s (de_name (pv 1)) dv_nil))))) (dss_one ds_never) dss_nil))
theorem fv_check_row_2 (a : Ax K mg) : FnV P w K mg base 2 (He.ga K "check_row") 2 [] [] ms_check_row m_check_row :=
  let ⟨fd, F⟩ := a.F_check_row
  ⟨fd, _, _, ok_check_row a F, bdN F [] fun _ _ _ _ _ _ us ws h1 h2 => match us, ws, h1, h2 with | [_, _], [], _, _ => rfl, .nil⟩
/-! ### lets_in -/
theorem sc_lets_in : FnScope ["pattern", "window", "place", "part"] ["pattern", "window"] (defScope st_lets_in) := ⟨rfl, rfl, rfl, by decide +kernel, rfl, by decide +kernel, by decide +kernel⟩
theorem ok_lets_in (a : Ax K mg) {f : Addr} {fd : FuncData} (F : FunD K "lets_in" "lets_in" (defArgs st_lets_in) (defBody st_lets_in) (defScope st_lets_in) [] [] f fd) : Nu.FnOk P w K mg base (L2N.CX P w) 1 f fd ["pattern", "window"] (spM K ms_lets_in m_lets_in) :=
  fn_body F sc_lets_in rfl fun cdv A outer s H vs E hr => (dss_one (ds_ret (de_callB (cr_all rfl) o_all rfl a.f_all boot_all (da_cons (do_of (de_lc (own := [("place", 2), ("part", 3)]) rfl sc_lets_in.nd (di_enum rfl rfl a.f_enumerate (da_cons (do_of (de_name (pv 0))) da_nil)) (by kernel_rfl) (fun _ _ _ _ _ => (dg_tup rfl (dgs_cons (dg_name sc_lets_in.nd rfl (.inl rfl)) (dgs_cons (dg_name sc_lets_in.nd rfl (.inl rfl)) dgs_nil)))) (fun _ _ _ _ _ => dts_nil) (fun _ _ _ _ _ => (de_or (de_cmp (op_eqD (hu64 hr)) o_eq (do_name (pv 3)) (do_of de_str) (nomark _)) (de_one (de_cmp (opr_in (hu65 hr)) o_in (do_of (de_ix ix_seq o_ix (do_name (pv 1)) (do_name (pv 2)))) (do_name (pv 3)) (by with_unfolding_all rfl))))))) da_nil))))
theorem fv_lets_in_2 (a : Ax K mg) : FnV P w K mg base 1 (He.ga K "lets_in") 2 [] [] ms_lets_in m_lets_in :=
  let ⟨fd, F⟩ := a.F_lets_in
  ⟨fd, _, _, ok_lets_in a F, bdN F [] fun _ _ _ _ _ _ us ws h1 h2 => match us, ws, h1, h2 with | [_, _], [], _, _ => rfl, .nil⟩
/-! ### Pass.told_for -/
theorem sc_Pass_told_for : FnScope ["self", "window", "pattern", "sign"] ["self", "window"] (defScope st_Pass_told_for) := ⟨rfl, rfl, rfl, by decide +kernel, rfl, by decide +kernel, by decide +kernel⟩
theorem ok_Pass_told_for (a : Ax K mg) {f : Addr} {fd : FuncData} (F : FunD K "told_for" "Pass.told_for" (defArgs st_Pass_told_for) (defBody st_Pass_told_for) (defScope st_Pass_told_for) [] [] f fd) : Nu.FnOk P w K mg base (L2N.CX P w) 2 f fd ["self", "window"] (spM K ms_Pass_told_for m_Pass_told_for) :=
  fn_body F sc_Pass_told_for rfl fun cdv A outer s H vs E hr => (dss_cons (ds_pre (ds_for own_cx rfl (di_seq rfl (do_of (de_fld rfl a.d_rules (do_name (pv 0))))) (dg_tup rfl (dgs_cons (dg_name sc_Pass_told_for.nd rfl (.inl rfl)) (dgs_cons (dg_name sc_Pass_told_for.nd rfl (.inl rfl)) dgs_nil))) (dss_wp (dss_one (ds_if (dt_val (de_call rfl (fv_lets_in_2 a) (hr.mono (by decide)) takes_cx rfl a.g_lets_in a.k_lets_in (dv_s (de_name (pv 2)) (dv_s (de_name (pv 1)) dv_nil)))) (dss_one (ds_retV (pv 3))) dss_nil))))) (dss_one (ds_ret (de_ix ix_seq o_ix (do_name (pv 1)) (do_of (de_fld rfl a.d_back (do_name (pv 0))))))))
theorem fv_Pass_told_for_2 (a : Ax K mg) : FnV P w K mg base 2 (He.ma K (He.ga K "Pass") "told_for") 2 [] [] ms_Pass_told_for m_Pass_told_for :=
  let ⟨fd, F⟩ := a.F_Pass_told_for
  ⟨fd, _, _, ok_Pass_told_for a F, bdN F [] fun _ _ _ _ _ _ us ws h1 h2 => match us, ws, h1, h2 with | [_, _], [], _, _ => rfl, .nil⟩
theorem mt_told_for_2 {X : Cx} (a : Ax X.K X.mg) : MethOk X 2 tab_told_for_2 "told_for" 1 [] := by
  intro c mi h
  unfold tab_told_for_2 at h
  by_cases e : c = "Pass"
  · rw [if_pos e] at h; cases h; subst e; exact ⟨_, a.l_Pass, a.m_Pass_told_for, (fv_Pass_told_for_2 a).mono (by decide)⟩
  rw [if_neg e] at h
  cases h
/-! ### Pass.along -/
theorem sc_Pass_along : FnScope ["self", "row", "width", "place"] ["self", "row"] (defScope st_Pass_along) := ⟨rfl, rfl, rfl, by decide +kernel, rfl, by decide +kernel, by decide +kernel⟩
theorem ok_Pass_along (a : Ax K mg) {f : Addr} {fd : FuncData} (F : FunD K "along" "Pass.along" (defArgs st_Pass_along) (defBody st_Pass_along) (defScope st_Pass_along) [] [] f fd) : Nu.FnOk P w K mg base (L2N.CX P w) 3 f fd ["self", "row"] (spM K ms_Pass_along m_Pass_along) :=
  fn_body F sc_Pass_along rfl fun cdv A outer s H vs E hr => (dss_cons (ds_set sc_Pass_along.nd rfl (.inr rfl) (de_add rfl (do_of (de_add rfl (do_of (de_fld rfl a.d_back (do_name (pv 0)))) (do_of de_int))) (do_of (de_fld rfl a.d_ahead (do_name (pv 0)))))) (dss_one (ds_ret (de_join rfl (do_of de_str) (do_of (de_lc (own := [("place", 3)]) rfl sc_Pass_along.nd (di_rng1 rfl a.f_range (da_cons (do_of (de_sub (do_of (de_add rfl (do_of (de_callB call_len o_len rfl a.f_len boot_len (da_cons (do_name (pv 1)) da_nil))) (do_of de_int))) (do_name (pv 2)))) da_nil)) (by kernel_rfl) (fun _ _ _ _ _ => (dg_name sc_Pass_along.nd rfl (.inl rfl))) (fun _ _ _ _ _ => dts_nil) (fun _ _ _ _ _ => (de_meth rfl (mt_told_for_2 a) (hr.mono (by decide)) takes_in (do_of (de_name (pv 0))) (dv_s (de_slice sl_1 o_sl (do_name (pv 1)) (dp_some (de_name (pv 3))) (dp_some (de_add rfl (do_name (pv 3)) (do_name (pv 2))))) dv_nil)))))))))
theorem fv_Pass_along_2 (a : Ax K mg) : FnV P w K mg base 3 (He.ma K (He.ga K "Pass") "along") 2 [] [] ms_Pass_along m_Pass_along :=
  let ⟨fd, F⟩ := a.F_Pass_along
  ⟨fd, _, _, ok_Pass_along a F, bdN F [] fun _ _ _ _ _ _ us ws h1 h2 => match us, ws, h1, h2 with | [_, _], [], _, _ => rfl, .nil⟩
theorem mt_along_2 {X : Cx} (a : Ax X.K X.mg) : MethOk X 3 tab_along_2 "along" 1 [] := by
  intro c mi h
  unfold tab_along_2 at h
  by_cases e : c = "Pass"
  · rw [if_pos e] at h; cases h; subst e; exact ⟨_, a.l_Pass, a.m_Pass_along, (fv_Pass_along_2 a).mono (by decide)⟩
  rw [if_neg e] at h
  cases h
/-! ### filled_out -/
theorem sc_filled_out : FnScope ["row", "edge", "back", "ahead"] ["row", "edge", "back", "ahead"] (defScope st_filled_out) := ⟨rfl, rfl, rfl, by decide +kernel, rfl, by decide +kernel, by decide +kernel⟩
theorem ok_filled_out (a : Ax K mg) {f : Addr} {fd : FuncData} (F : FunD K "filled_out" "filled_out" (defArgs st_filled_out) (defBody st_filled_out) (defScope st_filled_out) [] [] f fd) : Nu.FnOk P w K mg base (L2N.CX P w) 1 f fd ["row", "edge", "back", "ahead"] (spM K ms_filled_out m_filled_out) :=
  fn_body F sc_filled_out rfl fun cdv A outer s H vs E hr => (dss_cons (ds_if (dt_cmp (op_eqD (hu64 hr)) o_eq (do_name (pv 0)) (do_of de_str) (nomark _)) (dss_one (ds_ret de_str)) dss_nil) (dss_cons (ds_if (dt_cmp opr_is o_is (do_name (pv 1)) (do_of de_non) (nomark _)) (dss_one (ds_ret (de_add rfl (do_of (de_add rfl (do_of (de_mulT rfl (do_of (de_ix ix_seq o_ix (do_name (pv 0)) (do_of de_int))) (do_name (pv 2)))) (do_name (pv 0)))) (do_of (de_mulT rfl (do_of (de_ix ix_seq o_ix (do_name (pv 0)) (do_of (de_neg de_int)))) (do_name (pv 3))))))) dss_nil) (dss_one (ds_ret (de_add rfl (do_of (de_add rfl (do_of (de_mulT rfl (do_name (pv 1)) (do_name (pv 2)))) (do_name (pv 0)))) (do_of (de_mulT rfl (do_name (pv 1)) (do_name (pv 3)))))))))
theorem fv_filled_out_4 (a : Ax K mg) : FnV P w K mg base 1 (He.ga K "filled_out") 4 [] [] ms_filled_out m_filled_out :=
  let ⟨fd, F⟩ := a.F_filled_out
  ⟨fd, _, _, ok_filled_out a F, bdN F [] fun _ _ _ _ _ _ us ws h1 h2 => match us, ws, h1, h2 with | [_, _, _, _], [], _, _ => rfl, .nil⟩
/-! ### Pass.__call__ -/
theorem sc_Pass___call__ : FnScope ["self", "row"] ["self", "row"] (defScope st_Pass___call__) := ⟨rfl, rfl, rfl, by decide +kernel, rfl, by decide +kernel, by decide +kernel⟩
theorem ok_Pass___call__ (a : Ax K mg) {f : Addr} {fd : FuncData} (F : FunD K "__call__" "Pass.__call__" (defArgs st_Pass___call__) (defBody st_Pass___call__) (defScope st_Pass___call__) [] [] f fd) : Nu.FnOk P w K mg base (L2N.CX P w) 4 f fd ["self", "row"] (spM K ms_Pass___call__ m_Pass___call__) :=
  fn_body F sc_Pass___call__ rfl fun cdv A outer s H vs E hr => (dss_cons (ds_expr (de_call rfl (fv_check_row_2 a) (hr.mono (by decide)) takes_cx rfl a.g_check_row a.k_check_row (dv_s (de_fld rfl a.d_signs (do_name (pv 0))) (dv_s (de_name (pv 1)) dv_nil)))) (dss_one (ds_ret (de_meth rfl (mt_along_2 a) (hr.mono (by decide)) takes_cx (do_of (de_name (pv 0))) (dv_s (de_call rfl (fv_filled_out_4 a) (hr.mono (by decide)) takes_cx rfl a.g_filled_out a.k_filled_out (dv_s (de_name (pv 1)) (dv_s (de_fld rfl a.d_edge (do_name (pv 0))) (dv_s (de_fld rfl a.d_back (do_name (pv 0))) (dv_s (de_fld rfl a.d_ahead (do_name (pv 0))) dv_nil))))) dv_nil)))))
theorem fv_Pass___call___2 (a : Ax K mg) : FnV P w K mg base 4 (He.ma K (He.ga K "Pass") "__call__") 2 [] [] ms_Pass___call__ m_Pass___call__ :=
  let ⟨fd, F⟩ := a.F_Pass___call__
  ⟨fd, _, _, ok_Pass___call__ a F, bdN F [] fun _ _ _ _ _ _ us ws h1 h2 => match us, ws, h1, h2 with | [_, _], [], _, _ => rfl, .nil⟩
theorem mt_CALL_2 {X : Cx} (a : Ax X.K X.mg) : CallOk X 4 tab_CALL_2 1 [] := by
  intro c mi h
  unfold tab_CALL_2 at h
  by_cases e : c = "Pass"
  · rw [if_pos e] at h; cases h; subst e; exact ⟨_, a.m_Pass___call__, (fv_Pass___call___2 a).mono (by decide)⟩
  rw [if_neg e] at h
  cases h
/-! ### _law_round -/
theorem sc__law_round : FnScope ["_law_forms", "_law_line", "_law_form_here", "_law_found", "_law_place", "_law_spots", "_law_spot"] ["_law_forms", "_law_line"] (defScope st__law_round) := ⟨rfl, rfl, rfl, by decide +kernel, rfl, by decide +kernel, by decide +kernel⟩
theorem ok__law_round (a : Ax K mg) {f : Addr} {fd : FuncData} (F : FunD K "_law_round" "_law_round" (defArgs st__law_round) (defBody st__law_round) (defScope st__law_round) [] [] f fd) : Nu.FnOk P w K mg base (L2N.CX P w) 2 f fd ["_law_forms", "_law_line"] (spM K ms__law_round m__law_round) :=
  fn_body F sc__law_round rfl fun cdv A outer s H vs E hr => (dss_cons (ds_pre (ds_for own_cx rfl (di_seq rfl (do_of (de_name (pv 0)))) (dg_name sc__law_round.nd rfl (.inl rfl)) (dss_wp (dss_cons (ds_set sc__law_round.nd rfl (.inl rfl) de_str) (dss_cons (ds_pre (ds_for own_cx rfl (di_rng1 rfl a.f_range (da_cons (do_of (de_callB call_len o_len rfl a.f_len boot_len (da_cons (do_name (pv 1)) da_nil))) da_nil)) (dg_name sc__law_round.nd rfl (.inl rfl)) (dss_wp (dss_cons (ds_set sc__law_round.nd rfl (.inl rfl) (de_rgL rfl rfl a.f_list rfl a.f_range (de_sub (do_name (pv 4)) (do_of (de_ix ix_seq o_ix (do_name (pv 2)) (do_of de_int)))) (de_add rfl (do_of (de_add rfl (do_name (pv 4)) (do_of (de_ix ix_seq o_ix (do_name (pv 2)) (do_of de_int))))) (do_of de_int)))) (dss_one (ds_set sc__law_round.nd rfl (.inl rfl) (de_add rfl (do_name (pv 3)) (do_of (de_call rfl (fv__law_give_2 a) (hr.mono (by decide)) takes_cx rfl a.g__law_give a.k__law_give (dv_s (de_name (pv 2)) (dv_s (de_join rfl (do_of de_str) (do_of (de_lc (own := [("_law_spot", 6)]) rfl sc__law_round.nd (di_seq rfl (do_of (de_name (pv 5)))) (by kernel_rfl) (fun _ _ _ _ _ => (dg_name sc__law_round.nd rfl (.inl rfl))) (fun _ _ _ _ _ => dts_nil) (fun _ _ _ _ _ => (de_ix ix_seq o_ix (do_name (pv 1)) (do_of (de_mod (do_of (de_callTy call_int1 o_int rfl a.f_int boot_int (da_cons (do_name (pv 6)) da_nil))) (do_of (de_callB call_len o_len rfl a.f_len boot_len (da_cons (do_name (pv 1)) da_nil)))))))))) dv_nil))))))))))) (dss_one (ds_set sc__law_round.nd rfl (.inr rfl) (de_name (pv 3))))))))) (dss_one (ds_retV (pv 1))))
theorem fv__law_round_2 (a : Ax K mg) : FnV P w K mg base 2 (He.ga K "_law_round") 2 [] [] ms__law_round m__law_round :=
  let ⟨fd, F⟩ := a.F__law_round
  ⟨fd, _, _, ok__law_round a F, bdN F [] fun _ _ _ _ _ _ us ws h1 h2 => match us, ws, h1, h2 with | [_, _], [], _, _ => rfl, .nil⟩
/-! ### Chain.__call__ -/
theorem sc_Chain___call__ : FnScope ["self", "row", "each"] ["self", "row"] (defScope st_Chain___call__) := ⟨rfl, rfl, rfl, by decide +kernel, rfl, by decide +kernel, by decide +kernel⟩
theorem ok_Chain___call__ (a : Ax K mg) {f : Addr} {fd : FuncData} (F : FunD K "__call__" "Chain.__call__" (defArgs st_Chain___call__) (defBody st_Chain___call__) (defScope st_Chain___call__) [] [] f fd) : Nu.FnOk P w K mg base (L2N.CX P w) 5 f fd ["self", "row"] (spM K ms_Chain___call__ m_Chain___call__) :=
  fn_body F sc_Chain___call__ rfl fun cdv A outer s H vs E hr => (dss_cons (ds_expr (de_call rfl (fv_check_row_2 a) (hr.mono (by decide)) takes_cx rfl a.g_check_row a.k_check_row (dv_s (de_fld rfl a.d_signs (do_name (pv 0))) (dv_s (de_name (pv 1)) dv_nil)))) (dss_cons (ds_pre (ds_for own_cx rfl (di_seq rfl (do_of (de_fld rfl a.d_passes (do_name (pv 0))))) (dg_name sc_Chain___call__.nd rfl (.inl rfl)) (dss_wp (dss_one (ds_set sc_Chain___call__.nd rfl (.inl rfl) (de_inst rfl (mt_CALL_2 a) (hr.mono (by decide)) takes_cx (do_of (de_name (pv 2))) (dv_s (de_name (pv 1)) dv_nil))))))) (dss_one (ds_retV (pv 1)))))
theorem fv_Chain___call___2 (a : Ax K mg) : FnV P w K mg base 5 (He.ma K (He.ga K "Chain") "__call__") 2 [] [] ms_Chain___call__ m_Chain___call__ :=
  let ⟨fd, F⟩ := a.F_Chain___call__
  ⟨fd, _, _, ok_Chain___call__ a F, bdN F [] fun _ _ _ _ _ _ us ws h1 h2 => match us, ws, h1, h2 with | [_, _], [], _, _ => rfl, .nil⟩
theorem mt_CALL_2_Chain {X : Cx} (a : Ax X.K X.mg) : CallOk X 5 tab_CALL_2_Chain 1 [] := by
  intro c mi h
  unfold tab_CALL_2_Chain at h
  by_cases e : c = "Chain"
  · rw [if_pos e] at h; cases h; subst e; exact ⟨_, a.m_Chain___call__, (fv_Chain___call___2 a).mono (by decide)⟩
  rw [if_neg e] at h
  cases h
/-! ### next_memory -/
theorem sc_next_memory : FnScope ["one", "memory", "sign", "span", "whole", "told", "begin", "missing", "front"] ["one", "memory", "sign"] (defScope st_next_memory) := ⟨rfl, rfl, rfl, by decide +kernel, rfl, by decide +kernel, by decide +kernel⟩
theorem ok_next_memory (a : Ax K mg) {f : Addr} {fd : FuncData} (F : FunD K "next_memory" "next_memory" (defArgs st_next_memory) (defBody st_next_memory) (defScope st_next_memory) [] [] f fd) : Nu.FnOk P w K mg base (L2N.CX P w) 3 f fd ["one", "memory", "sign"] (spM K ms_next_memory m_next_memory) :=
  fn_body F sc_next_memory rfl fun cdv A outer s H vs E hr => (dss_cons (ds_par3 rfl sc_next_memory.nd rfl rfl rfl (by decide) (by decide) (by decide) rfl rfl rfl (da_cons (do_of (de_add rfl (do_of (de_fld rfl a.d_back (do_name (pv 0)))) (do_of (de_fld rfl a.d_ahead (do_name (pv 0)))))) (da_cons (do_of (de_add rfl (do_name (pv 1)) (do_name (pv 2)))) (da_cons (do_of de_str) da_nil))) rfl) (dss_cons (ds_if (dt_cmp op_ge o_ge (do_of (de_callB call_len o_len rfl a.f_len boot_len (da_cons (do_name (pv 1)) da_nil))) (do_of (de_fld rfl a.d_ahead (do_name (pv 0)))) (nomark _)) (dss_cons (ds_set sc_next_memory.nd rfl (.inl rfl) (de_sub (do_of (de_sub (do_of (de_callB call_len o_len rfl a.f_len boot_len (da_cons (do_name (pv 1)) da_nil))) (do_of (de_fld rfl a.d_ahead (do_name (pv 0)))))) (do_of (de_fld rfl a.d_back (do_name (pv 0)))))) (dss_cons (ds_set sc_next_memory.nd rfl (.inl rfl) (de_callB (call_max2 rfl) o_max rfl a.f_max boot_max (da_cons (do_of de_int) (da_cons (do_of (de_neg (de_name (pv 6)))) da_nil)))) (dss_cons (ds_set sc_next_memory.nd rfl (.inl rfl) (de_slice sl_1 o_sl (do_of (de_call rfl (fv_filled_out_4 a) (hr.mono (by decide)) takes_cx rfl a.g_filled_out a.k_filled_out (dv_s (de_name (pv 4)) (dv_s (de_fld rfl a.d_edge (do_name (pv 0))) (dv_s (de_name (pv 7)) (dv_s de_int dv_nil)))))) dp_none (dp_some (de_name (pv 7))))) (dss_one (ds_set sc_next_memory.nd rfl (.inl rfl) (de_meth rfl (mt_told_for_2 a) (hr.mono (by decide)) takes_cx (do_of (de_name (pv 0))) (dv_s (de_add rfl (do_name (pv 8)) (do_of (de_slice sl_1 o_sl (do_name (pv 4)) (dp_some (de_callB (call_max2 rfl) o_max rfl a.f_max boot_max (da_cons (do_of de_int) (da_cons (do_name (pv 6)) da_nil)))) dp_none))) dv_nil))))))) dss_nil) (dss_one (ds_ret (de_tup (da_cons (do_of (de_slice sl_1 o_sl (do_name (pv 4)) (dp_some (de_callB (call_max2 rfl) o_max rfl a.f_max boot_max (da_cons (do_of de_int) (da_cons (do_of (de_sub (do_of (de_callB call_len o_len rfl a.f_len boot_len (da_cons (do_name (pv 4)) da_nil))) (do_name (pv 3)))) da_nil)))) dp_none)) (da_cons (do_of (de_name (pv 5))) da_nil)))))))
theorem fv_next_memory_3 (a : Ax K mg) : FnV P w K mg base 3 (He.ga K "next_memory") 3 [] [] ms_next_memory m_next_memory :=
  let ⟨fd, F⟩ := a.F_next_memory
  ⟨fd, _, _, ok_next_memory a F, bdN F [] fun _ _ _ _ _ _ us ws h1 h2 => match us, ws, h1, h2 with | [_, _, _], [], _, _ => rfl, .nil⟩
/-! ### Chain.step -/
theorem sc_Chain_step : FnScope ["self", "state", "sign", "found", "index", "each"] ["self", "state", "sign"] (defScope st_Chain_step) := ⟨rfl, rfl, rfl, by decide +kernel, rfl, by decide +kernel, by decide +kernel⟩
theorem ok_Chain_step (a : Ax K mg) {f : Addr} {fd : FuncData} (F : FunD K "step" "Chain.step" (defArgs st_Chain_step) (defBody st_Chain_step) (defScope st_Chain_step) [] [] f fd) : Nu.FnOk P w K mg base (L2N.CX P w) 4 f fd ["self", "state", "sign"] (spM K ms_Chain_step m_Chain_step) :=
  fn_body F sc_Chain_step rfl fun cdv A outer s H vs E hr => (dss_cons (ds_set sc_Chain_step.nd rfl (.inl rfl) (de_callTy (call_list1 rfl) o_list rfl a.f_list boot_list (da_cons (do_name (pv 1)) da_nil))) (dss_cons (ds_pre (ds_for own_cx rfl (di_enum rfl rfl a.f_enumerate (da_cons (do_of (de_fld rfl a.d_passes (do_name (pv 0)))) da_nil)) (dg_tup rfl (dgs_cons (dg_name sc_Chain_step.nd rfl (.inl rfl)) (dgs_cons (dg_name sc_Chain_step.nd rfl (.inl rfl)) dgs_nil))) (dss_wp (dss_one (ds_if (dt_cmp (op_neD (hu64 hr)) o_ne (do_name (pv 2)) (do_of de_str) (nomark _)) (dss_one (ds_asgX rfl (pv 3) (de_name (pv 4)) sc_Chain_step.nd rfl (.inl rfl) (do_of (de_call rfl (fv_next_memory_3 a) (hr.mono (by decide)) takes_cx rfl a.g_next_memory a.k_next_memory (dv_s (de_name (pv 5)) (dv_s (de_ix ix_seq o_ix (do_name (pv 1)) (do_name (pv 4))) (dv_s (de_name (pv 2)) dv_nil))))) rfl)) dss_nil))))) (dss_one (ds_ret (de_tup (da_cons (do_of (de_callTy call_tuple_of o_tuple rfl a.f_tuple boot_tuple (da_cons (do_name (pv 3)) da_nil))) (da_cons (do_of (de_name (pv 2))) da_nil)))))))
theorem fv_Chain_step_3 (a : Ax K mg) : FnV P w K mg base 4 (He.ma K (He.ga K "Chain") "step") 3 [] [] ms_Chain_step m_Chain_step :=
  let ⟨fd, F⟩ := a.F_Chain_step
  ⟨fd, _, _, ok_Chain_step a F, bdN F [] fun _ _ _ _ _ _ us ws h1 h2 => match us, ws, h1, h2 with | [_, _, _], [], _, _ => rfl, .nil⟩
theorem mt_step_3_Chain {X : Cx} (a : Ax X.K X.mg) : MethOk X 4 tab_step_3_Chain "step" 2 [] := by
  intro c mi h
  unfold tab_step_3_Chain at h
  by_cases e : c = "Chain"
  · rw [if_pos e] at h; cases h; subst e; exact ⟨_, a.l_Chain, a.m_Chain_step, (fv_Chain_step_3 a).mono (by decide)⟩
  rw [if_neg e] at h
  cases h
/-! ### check_ring -/
theorem sc_check_ring : FnScope ["signs", "row"] ["signs", "row"] (defScope st_check_ring) := ⟨rfl, rfl, rfl, by decide +kernel, rfl, by decide +kernel, by decide +kernel⟩
theorem ok_check_ring (a : Ax K mg) {f : Addr} {fd : FuncData} (F : FunD K "check_ring" "check_ring" (defArgs st_check_ring) (defBody st_check_ring) (defScope st_check_ring) [] [] f fd) : Nu.FnOk P w K mg base (L2N.CX P w) 2 f fd ["signs", "row"] (spM K ms_check_ring m_check_ring) :=
  fn_body F sc_check_ring rfl fun cdv A outer s H vs E hr => (dss_one (ds_if (PW.pt (dw_or (dt_not (dt_val (de_call rfl (fv_is_over_2 a) (hr.mono (by decide)) takes_cx rfl a.g_is_over a.k_is_over (dv_s (de_name (pv 0)) (dv_s (de_name (pv 1)) dv_nil))))) (dw_or1 (dt_cmp (op_eqD (hu64 hr)) o_eq (do_name (pv 1)) (do_of de_str) (nomark _))))) (dss_one ds_never) dss_nil))
theorem fv_check_ring_2 (a : Ax K mg) : FnV P w K mg base 2 (He.ga K "check_ring") 2 [] [] ms_check_ring m_check_ring :=
  let ⟨fd, F⟩ := a.F_check_ring
  ⟨fd, _, _, ok_check_ring a F, bdN F [] fun _ _ _ _ _ _ us ws h1 h2 => match us, ws, h1, h2 with | [_, _], [], _, _ => rfl, .nil⟩
/-! ### Pass.ring -/
theorem sc_Pass_ring : FnScope ["self", "row", "whole", "begin"] ["self", "row"] (defScope st_Pass_ring) := ⟨rfl, rfl, rfl, by decide +kernel, rfl, by decide +kernel, by decide +kernel⟩
theorem ok_Pass_ring (a : Ax K mg) {f : Addr} {fd : FuncData} (F : FunD K "ring" "Pass.ring" (defArgs st_Pass_ring) (defBody st_Pass_ring) (defScope st_Pass_ring) [] [] f fd) : Nu.FnOk P w K mg base (L2N.CX P w) 4 f fd ["self", "row"] (spM K ms_Pass_ring m_Pass_ring) :=
  fn_body F sc_Pass_ring rfl fun cdv A outer s H vs E hr => (dss_cons (ds_expr (de_call rfl (fv_check_ring_2 a) (hr.mono (by decide)) takes_cx rfl a.g_check_ring a.k_check_ring (dv_s (de_fld rfl a.d_signs (do_name (pv 0))) (dv_s (de_name (pv 1)) dv_nil)))) (dss_cons (ds_set sc_Pass_ring.nd rfl (.inl rfl) (de_mulT rfl (do_name (pv 1)) (do_of (de_add rfl (do_of (de_mulT rfl (do_of de_int) (do_of (de_gint rfl a.c_MOST_REACH)))) (do_of de_int))))) (dss_cons (ds_set sc_Pass_ring.nd rfl (.inl rfl) (de_mulT rfl (do_of (de_gint rfl a.c_MOST_REACH)) (do_of (de_callB call_len o_len rfl a.f_len boot_len (da_cons (do_name (pv 1)) da_nil))))) (dss_one (ds_ret (de_meth rfl (mt_along_2 a) (hr.mono (by decide)) takes_cx (do_of (de_name (pv 0))) (dv_s (de_slice sl_1 o_sl (do_name (pv 2)) (dp_some (de_sub (do_name (pv 3)) (do_of (de_fld rfl a.d_back (do_name (pv 0)))))) (dp_some (de_add rfl (do_of (de_add rfl (do_name (pv 3)) (do_of (de_callB call_len o_len rfl a.f_len boot_len (da_cons (do_name (pv 1)) da_nil))))) (do_of (de_fld rfl a.d_ahead (do_name (pv 0))))))) dv_nil)))))))
theorem fv_Pass_ring_2 (a : Ax K mg) : FnV P w K mg base 4 (He.ma K (He.ga K "Pass") "ring") 2 [] [] ms_Pass_ring m_Pass_ring :=
  let ⟨fd, F⟩ := a.F_Pass_ring
  ⟨fd, _, _, ok_Pass_ring a F, bdN F [] fun _ _ _ _ _ _ us ws h1 h2 => match us, ws, h1, h2 with | [_, _], [], _, _ => rfl, .nil⟩
theorem mt_ring_2 {X : Cx} (a : Ax X.K X.mg) : MethOk X 4 tab_ring_2 "ring" 1 [] := by
  intro c mi h
  unfold tab_ring_2 at h
  by_cases e : c = "Pass"
  · rw [if_pos e] at h; cases h; subst e; exact ⟨_, a.l_Pass, a.m_Pass_ring, (fv_Pass_ring_2 a).mono (by decide)⟩
  rw [if_neg e] at h
  cases h
/-! ### Chain.ring -/
theorem sc_Chain_ring : FnScope ["self", "row", "each"] ["self", "row"] (defScope st_Chain_ring) := ⟨rfl, rfl, rfl, by decide +kernel, rfl, by decide +kernel, by decide +kernel⟩
theorem ok_Chain_ring (a : Ax K mg) {f : Addr} {fd : FuncData} (F : FunD K "ring" "Chain.ring" (defArgs st_Chain_ring) (defBody st_Chain_ring) (defScope st_Chain_ring) [] [] f fd) : Nu.FnOk P w K mg base (L2N.CX P w) 5 f fd ["self", "row"] (spM K ms_Chain_ring m_Chain_ring) :=
  fn_body F sc_Chain_ring rfl fun cdv A outer s H vs E hr => (dss_cons (ds_expr (de_call rfl (fv_check_ring_2 a) (hr.mono (by decide)) takes_cx rfl a.g_check_ring a.k_check_ring (dv_s (de_fld rfl a.d_signs (do_name (pv 0))) (dv_s (de_name (pv 1)) dv_nil)))) (dss_cons (ds_pre (ds_for own_cx rfl (di_seq rfl (do_of (de_fld rfl a.d_passes (do_name (pv 0))))) (dg_name sc_Chain_ring.nd rfl (.inl rfl)) (dss_wp (dss_one (ds_set sc_Chain_ring.nd rfl (.inl rfl) (de_meth rfl (mt_ring_2 a) (hr.mono (by decide)) takes_cx (do_of (de_name (pv 2))) (dv_s (de_name (pv 1)) dv_nil))))))) (dss_one (ds_retV (pv 1)))))
theorem fv_Chain_ring_2 (a : Ax K mg) : FnV P w K mg base 5 (He.ma K (He.ga K "Chain") "ring") 2 [] [] ms_Chain_ring m_Chain_ring :=
  let ⟨fd, F⟩ := a.F_Chain_ring
  ⟨fd, _, _, ok_Chain_ring a F, bdN F [] fun _ _ _ _ _ _ us ws h1 h2 => match us, ws, h1, h2 with | [_, _], [], _, _ => rfl, .nil⟩
theorem mt_ring_2_Chain {X : Cx} (a : Ax X.K X.mg) : MethOk X 5 tab_ring_2_Chain "ring" 1 [] := by
  intro c mi h
  unfold tab_ring_2_Chain at h
  by_cases e : c = "Chain"
  · rw [if_pos e] at h; cases h; subst e; exact ⟨_, a.l_Chain, a.m_Chain_ring, (fv_Chain_ring_2 a).mono (by decide)⟩
  rw [if_neg e] at h
  cases h
/-! ### _law_right -/
theorem sc__law_right : FnScope ["_law_bag_here", "_law_letters", "_law_forms", "_law_twins", "_law_chains", "_law_lines", "_law_line", "_law_due", "_law_states", "_law_told", "_law_mark", "_law_k", "_law_more", "_law_flipped", "_law_mate", "_law_form_here", "_law_again", "_law_chain"] ["_law_bag_here"] (defScope st__law_right) := ⟨rfl, rfl, rfl, by decide +kernel, rfl, by decide +kernel, by decide +kernel⟩
theorem ok__law_right (a : Ax K mg) {f : Addr} {fd : FuncData} (F : FunD K "_law_right" "_law_right" (defArgs st__law_right) (defBody st__law_right) (defScope st__law_right) [] [] f fd) : Nu.FnOk P w K mg base (L2N.CX P w) 9 f fd ["_law_bag_here"] (spM K ms__law_right m__law_right) :=
  fn_body F sc__law_right rfl fun cdv A outer s H vs E hr => (dss_cons (ds_set sc__law_right.nd rfl (.inr rfl) (de_call rfl (fv__law_signs_1 a) (hr.mono (by decide)) takes_cx rfl a.g__law_signs a.k__law_signs (dv_n (pv 0) dv_nil))) (dss_cons (ds_set sc__law_right.nd rfl (.inl rfl) (de_lst (da_cons (do_of (de_call rfl (fv__law_form_3 a) (hr.mono (by decide)) takes_cx rfl a.g__law_form a.k__law_form (dv_n (pv 0) (dv_s (de_name (pv 1)) (dv_s de_int dv_nil))))) (da_cons (do_of (de_call rfl (fv__law_form_3 a) (hr.mono (by decide)) takes_cx rfl a.g__law_form a.k__law_form (dv_n (pv 0) (dv_s (de_name (pv 1)) (dv_s de_int dv_nil))))) da_nil)))) (dss_cons (ds_setLc (own := [("_law_form_here", 15)]) rfl sc__law_right.nd rfl rfl rfl (di_seq rfl (do_of (de_name (pv 2)))) (by kernel_rfl) (fun _ _ _ _ _ => (dg_name sc__law_right.nd rfl (.inl rfl))) (fun _ _ _ _ _ => dts_nil) (fun _ _ _ _ _ => (de_call rfl (fv__law_otherwise_2 a) (hr.mono (by decide)) takes_in rfl a.g__law_otherwise a.k__law_otherwise (dv_n (pv 0) (dv_s (de_name (pv 15)) dv_nil))))) (dss_cons (ds_set sc__law_right.nd rfl (.inl rfl) (de_lst (da_cons (do_of (de_call rfl (fv__law_chain_of_2 a) (hr.mono (by decide)) takes_cx rfl a.g__law_chain_of a.k__law_chain_of (dv_s (de_name (pv 1)) (dv_s (de_name (pv 2)) dv_nil)))) (da_cons (do_of (de_call rfl (fv__law_chain_of_2 a) (hr.mono (by decide)) takes_cx rfl a.g__law_chain_of a.k__law_chain_of (dv_s (de_name (pv 1)) (dv_s (de_name (pv 3)) dv_nil)))) da_nil)))) (dss_cons (ds_if (dt_cmp (op_neD (hu64 hr)) o_ne (do_of (de_eqO rfl (ot_eq_2_Chain a) (hr.mono (by decide)) takes_cx (do_of (de_ix ix_seq o_ix (do_name (pv 4)) (do_of de_int))) (do_of (de_ix ix_seq o_ix (do_name (pv 4)) (do_of de_int))))) (do_of (de_cmp (op_eqD (hu64 hr)) o_eq (do_name (pv 3)) (do_name (pv 2)) (nomark _))) (nomark _)) (dss_one (ds_ret de_bl)) dss_nil) (dss_cons (ds_set sc__law_right.nd rfl (.inl rfl) (de_add rfl (do_of (de_call rfl (fv__law_all_2 a) (hr.mono (by decide)) takes_cx rfl a.g__law_all a.k__law_all (dv_s (de_name (pv 1)) (dv_s (de_ifE (dt_cmp (op_eqD (hu64 hr)) o_eq (do_of (de_callB call_len o_len rfl a.f_len boot_len (da_cons (do_name (pv 1)) da_nil))) (do_of de_int) (nomark _)) de_int de_int) dv_nil)))) (do_of (de_lc (own := [("_law_again", 16)]) rfl sc__law_right.nd (di_rng1 rfl a.f_range (da_cons (do_of de_int) da_nil)) (by kernel_rfl) (fun _ _ _ _ _ => (dg_name sc__law_right.nd rfl (.inl rfl))) (fun _ _ _ _ _ => dts_nil) (fun _ _ _ _ _ => (de_call rfl (fv__law_row_3 a) (hr.mono (by decide)) takes_in rfl a.g__law_row a.k__law_row (dv_n (pv 0) (dv_s (de_name (pv 1)) (dv_s de_int dv_nil))))))))) (dss_cons (ds_pre (ds_for own_cx rfl (di_seq rfl (do_of (de_name (pv 5)))) (dg_name sc__law_right.nd rfl (.inr rfl)) (dss_wp (dss_cons (ds_set sc__law_right.nd rfl (.inl rfl) (de_call rfl (fv__law_out_2 a) (hr.mono (by decide)) takes_cx rfl a.g__law_out a.k__law_out (dv_s (de_name (pv 2)) (dv_s (de_name (pv 6)) dv_nil)))) (dss_cons (ds_if (dt_cmp (op_neD (hu64 hr)) o_ne (do_of (de_lst (da_cons (do_of (de_inst rfl (mt_CALL_2_Chain a) (hr.mono (by decide)) takes_cx (do_of (de_ix ix_seq o_ix (do_name (pv 4)) (do_of de_int))) (dv_s (de_name (pv 6)) dv_nil))) (da_cons (do_of (de_inst rfl (mt_CALL_2_Chain a) (hr.mono (by decide)) takes_cx (do_of (de_ix ix_seq o_ix (do_name (pv 4)) (do_of de_int))) (dv_s (de_name (pv 6)) dv_nil))) da_nil)))) (do_of (de_lst (da_cons (do_of (de_name (pv 7))) (da_cons (do_of (de_name (pv 7))) da_nil)))) (nomark _)) (dss_one (ds_ret de_bl)) dss_nil) (dss_cons (ds_if (dt_cmp (op_neD (hu64 hr)) o_ne (do_of (de_inst rfl (mt_CALL_2 a) (hr.mono (by decide)) takes_cx (do_of (de_call rfl (fv__law_pass_1 a) (hr.mono (by decide)) takes_cx rfl a.g__law_pass a.k__law_pass (dv_s (de_ix ix_seq o_ix (do_name (pv 3)) (do_of de_int)) dv_nil))) (dv_s (de_name (pv 6)) dv_nil))) (do_of (de_call rfl (fv__law_out_2 a) (hr.mono (by decide)) takes_cx rfl a.g__law_out a.k__law_out (dv_s (de_slice sl_1 o_sl (do_name (pv 2)) dp_none (dp_some de_int)) (dv_s (de_name (pv 6)) dv_nil)))) (nomark _)) (dss_one (ds_ret de_bl)) dss_nil) (dss_cons (ds_if (dt_cmp (op_neD (hu64 hr)) o_ne (do_name (pv 6)) (do_of de_str) (nomark _)) (dss_cons (ds_set sc__law_right.nd rfl (.inl rfl) (de_call rfl (fv__law_round_2 a) (hr.mono (by decide)) takes_cx rfl a.g__law_round a.k__law_round (dv_s (de_name (pv 2)) (dv_s (de_name (pv 6)) dv_nil)))) (dss_one (ds_if (dt_cmp (op_neD (hu64 hr)) o_ne (do_of (de_lc (own := [("_law_chain", 17)]) rfl sc__law_right.nd (di_seq rfl (do_of (de_name (pv 4)))) (by kernel_rfl) (fun _ _ _ _ _ => (dg_name sc__law_right.nd rfl (.inl rfl))) (fun _ _ _ _ _ => dts_nil) (fun _ _ _ _ _ => (de_meth rfl (mt_ring_2_Chain a) (hr.mono (by decide)) takes_in (do_of (de_name (pv 17))) (dv_s (de_name (pv 6)) dv_nil))))) (do_of (de_lst (da_cons (do_of (de_name (pv 7))) (da_cons (do_of (de_name (pv 7))) da_nil)))) (nomark _)) (dss_one (ds_ret de_bl)) dss_nil))) dss_nil) (dss_cons (ds_parV rfl sc__law_right.nd rfl rfl (by decide) rfl rfl (dv_e (de_lc (own := [("_law_chain", 17)]) rfl sc__law_right.nd (di_seq rfl (do_of (de_name (pv 4)))) (by kernel_rfl) (fun _ _ _ _ _ => (dg_name sc__law_right.nd rfl (.inl rfl))) (fun _ _ _ _ _ => dts_nil) (fun _ _ _ _ _ => (de_fld rfl a.d_start (do_name (pv 17))))) (dv_e (de_lst (da_cons (do_of de_str) (da_cons (do_of de_str) da_nil))) dv_nil)) rfl) (dss_one (ds_pre (ds_for own_cx rfl (di_seq rfl (do_of (de_name (pv 6)))) (dg_name sc__law_right.nd rfl (.inl rfl)) (dss_wp (dss_cons (ds_pre (ds_for own_cx rfl (di_rng1 rfl a.f_range (da_cons (do_of de_int) da_nil)) (dg_name sc__law_right.nd rfl (.inl rfl)) (dss_wp (dss_cons (ds_asgX rfl (pv 8) (de_name (pv 11)) sc__law_right.nd rfl (.inl rfl) (do_of (de_meth rfl (mt_step_3_Chain a) (hr.mono (by decide)) takes_cx (do_of (de_ix ix_seq o_ix (do_name (pv 4)) (do_name (pv 11)))) (dv_s (de_ix ix_seq o_ix (do_name (pv 8)) (do_name (pv 11))) (dv_s (de_name (pv 10)) dv_nil)))) rfl) (dss_one (ds_setIx (pv 9) (de_name (pv 11)) (de_add rfl (do_of (de_ix ix_seq o_ix (do_name (pv 9)) (do_name (pv 11)))) (do_name (pv 12))))))))) (dss_one (ds_if (PW.pt (dw_or (dt_cmp (op_neD (hu64 hr)) o_ne (do_of (de_ix ix_seq o_ix (do_name (pv 9)) (do_of de_int))) (do_of (de_ix ix_seq o_ix (do_name (pv 9)) (do_of de_int))) (nomark _)) (dw_or1 (dt_cmp (op_neD (hu64 hr)) o_ne (do_of (de_ix ix_seq o_ix (do_name (pv 8)) (do_of de_int))) (do_of (de_ix ix_seq o_ix (do_name (pv 8)) (do_of de_int))) (nomark _))))) (dss_one (ds_ret de_bl)) dss_nil))))))))))))))) (dss_cons (ds_setLc (own := [("_law_form_here", 15)]) rfl sc__law_right.nd rfl rfl rfl (di_seq rfl (do_of (de_name (pv 2)))) (by kernel_rfl) (fun _ _ _ _ _ => (dg_name sc__law_right.nd rfl (.inl rfl))) (fun _ _ _ _ _ => dts_nil) (fun _ _ _ _ _ => (de_add rfl (do_of (de_tup (da_cons (do_of (de_rev rfl (do_name (pv 1)))) da_nil))) (do_of (de_slice sl_1 o_sl (do_name (pv 15)) (dp_some de_int) dp_none))))) (dss_cons (ds_set sc__law_right.nd rfl (.inl rfl) (de_call rfl (fv__law_chain_of_2 a) (hr.mono (by decide)) takes_cx rfl a.g__law_chain_of a.k__law_chain_of (dv_s (de_rev rfl (do_name (pv 1))) (dv_s (de_name (pv 13)) dv_nil)))) (dss_cons (ds_set sc__law_right.nd rfl (.inr rfl) (de_call rfl (fv__law_row_3 a) (hr.mono (by decide)) takes_cx rfl a.g__law_row a.k__law_row (dv_n (pv 0) (dv_s (de_name (pv 1)) (dv_s de_int dv_nil))))) (dss_one (ds_ret (de_and (de_cmp (op_eqD (hu64 hr)) o_eq (do_of (de_inst rfl (mt_CALL_2_Chain a) (hr.mono (by decide)) takes_cx (do_of (de_name (pv 14))) (dv_s (de_name (pv 6)) dv_nil))) (do_of (de_inst rfl (mt_CALL_2_Chain a) (hr.mono (by decide)) takes_cx (do_of (de_ix ix_seq o_ix (do_name (pv 4)) (do_of de_int))) (dv_s (de_name (pv 6)) dv_nil))) (nomark _)) (de_one (de_neO rfl (ot_eq_2_Chain a) (on_eq_2_Chain a) (hr.mono (by decide)) takes_cx (do_of (de_name (pv 14))) (do_of (de_ix ix_seq o_ix (do_name (pv 4)) (do_of de_int))))))))))))))))))
theorem fv__law_right_1 (a : Ax K mg) : FnV P w K mg base 9 (He.ga K "_law_right") 1 [] [] ms__law_right m__law_right :=
  let ⟨fd, F⟩ := a.F__law_right
  ⟨fd, _, _, ok__law_right a F, bdN F [] fun _ _ _ _ _ _ us ws h1 h2 => match us, ws, h1, h2 with | [_], [], _, _ => rfl, .nil⟩
/-! ### _law_bag -/
theorem sc__law_bag : FnScope ["_law_cells", "_law_k", "_law_cell", "_law_seed", "_law_this", "_law_figures"] ["_law_cells", "_law_k"] (defScope st__law_bag) := ⟨rfl, rfl, rfl, by decide +kernel, rfl, by decide +kernel, by decide +kernel⟩
theorem ok__law_bag (a : Ax K mg) {f : Addr} {fd : FuncData} (F : FunD K "_law_bag" "_law_bag" (defArgs st__law_bag) (defBody st__law_bag) (defScope st__law_bag) [] [] f fd) : Nu.FnOk P w K mg base (L2N.CX P w) 1 f fd ["_law_cells", "_law_k"] (spM K ms__law_bag m__law_bag) :=
  fn_body F sc__law_bag rfl fun cdv A outer s H vs E hr => (dss_cons (ds_parV rfl sc__law_bag.nd rfl rfl (by decide) rfl rfl (dv_e (de_ifE (dt_cmp op_lt o_lt (do_name (pv 1)) (do_of (de_callB call_len o_len rfl a.f_len boot_len (da_cons (do_name (pv 0)) da_nil))) (nomark _)) (de_callTy call_int1 o_int rfl a.f_int boot_int (da_cons (do_of (de_ix ix_seq o_ix (do_name (pv 0)) (do_name (pv 1)))) da_nil)) de_int) (dv_e (de_mulT rfl (do_of de_int) (do_of (de_add rfl (do_name (pv 1)) (do_of de_int)))) dv_nil)) rfl) (dss_cons (ds_pre (ds_for own_cx rfl (di_seq rfl (do_of (de_slice sl_1 o_sl (do_name (pv 0)) dp_none (dp_some de_int)))) (dg_name sc__law_bag.nd rfl (.inl rfl)) (dss_wp (dss_one (ds_set sc__law_bag.nd rfl (.inl rfl) (de_mod (do_of (de_callTy call_int1 o_int rfl a.f_int boot_int (da_cons (do_of (de_add rfl (do_of (de_add rfl (do_of (de_mulT rfl (do_name (pv 3)) (do_of de_int))) (do_of (de_mod (do_of (de_callTy call_int1 o_int rfl a.f_int boot_int (da_cons (do_name (pv 4)) da_nil))) (do_of de_int))))) (do_of (de_mulT rfl (do_of de_int) (do_name (pv 1)))))) da_nil))) (do_of de_int))))))) (dss_cons (ds_set sc__law_bag.nd rfl (.inl rfl) (de_ifE (PW.pt (dw_or (dt_cmp op_lt o_lt (do_name (pv 2)) (do_of de_int) (nomark _)) (dw_or1 (dt_cmp op_ge o_ge (do_name (pv 2)) (do_of (de_pow (do_of de_int) (do_of de_int))) (nomark _))))) (de_callB call_abs o_abs rfl a.f_abs boot_abs (da_cons (do_name (pv 2)) da_nil)) de_int)) (dss_one (ds_ret (de_lst (da_cons (do_of (de_name (pv 5))) (da_cons (do_of (de_mod (do_of (de_callTy call_int1 o_int rfl a.f_int boot_int (da_cons (do_of (de_add rfl (do_name (pv 3)) (do_of (de_mulT rfl (do_of de_int) (do_of (de_mod (do_of (de_callTy call_int1 o_int rfl a.f_int boot_int (da_cons (do_name (pv 2)) da_nil))) (do_of de_int))))))) da_nil))) (do_of de_int))) (da_cons (do_of de_int) da_nil)))))))))
theorem fv__law_bag_2 (a : Ax K mg) : FnV P w K mg base 1 (He.ga K "_law_bag") 2 [] [] ms__law_bag m__law_bag :=
  let ⟨fd, F⟩ := a.F__law_bag
  ⟨fd, _, _, ok__law_bag a F, bdN F [] fun _ _ _ _ _ _ us ws h1 h2 => match us, ws, h1, h2 with | [_, _], [], _, _ => rfl, .nil⟩
/-! ### law -/
theorem sc_law : FnScope ["_law_cells", "_law_k"] ["_law_cells"] (defScope st_law) := ⟨rfl, rfl, rfl, by decide +kernel, rfl, by decide +kernel, by decide +kernel⟩
theorem ok_law (a : Ax K mg) {f : Addr} {fd : FuncData} (F : FunD K "law" "law" (defArgs st_law) (defBody st_law) (defScope st_law) [] [] f fd) : Nu.FnOk P w K mg base (L2N.CX P w) 10 f fd ["_law_cells"] (spM K ms_law m_law) :=
  fn_body F sc_law rfl fun cdv A outer s H vs E hr => (dss_one (ds_ret (de_callB (cr_all rfl) o_all rfl a.f_all boot_all (da_cons (do_of (de_lc (own := [("_law_k", 1)]) rfl sc_law.nd (di_rng1 rfl a.f_range (da_cons (do_of (de_callB (call_max2 rfl) o_max rfl a.f_max boot_max (da_cons (do_of de_int) (da_cons (do_of (de_callB (call_min2 rfl) o_min rfl a.f_min boot_min (da_cons (do_of (de_callB call_len o_len rfl a.f_len boot_len (da_cons (do_name (pv 0)) da_nil))) (da_cons (do_of de_int) da_nil)))) da_nil)))) da_nil)) (by kernel_rfl) (fun _ _ _ _ _ => (dg_name sc_law.nd rfl (.inl rfl))) (fun _ _ _ _ _ => dts_nil) (fun _ _ _ _ _ => (de_call rfl (fv__law_right_1 a) (hr.mono (by decide)) takes_in rfl a.g__law_right a.k__law_right (dv_e (de_call rfl (fv__law_bag_2 a) (hr.mono (by decide)) takes_in rfl a.g__law_bag a.k__law_bag (dv_s (de_name (pv 0)) (dv_s (de_name (pv 1)) dv_nil))) dv_nil))))) da_nil))))
/-! ### the head -/
theorem ax_of {h : Heap} (X : K.In h) (G : h.Ns mainGlobals mg) (c : hk.Says K) : Ax K mg :=
  ⟨He.free_ok X G (c.fact 0), He.free_ok X G (c.fact 1), He.free_ok X G (c.fact 2), He.free_ok X G (c.fact 3), He.free_ok X G (c.fact 4), He.free_ok X G (c.fact 5), He.free_ok X G (c.fact 6), He.free_ok X G (c.fact 7), He.free_ok X G (c.fact 8), He.free_ok X G (c.fact 9), He.free_ok X G (c.fact 10), He.free_ok X G (c.fact 11), He.free_ok X G (c.fact 12), He.free_ok X G (c.fact 13), He.free_ok X G (c.fact 14), He.int_ok X G (c.fact 15), He.int_ok X G (c.fact 16), He.int_ok X G (c.fact 17), He.int_ok X G (c.fact 18), He.int_ok X G (c.fact 19), He.str_ok X G (c.fact 20), He.glo_ok X G (c.fact 21), He.glo_ok X G (c.fact 22), He.glo_ok X G (c.fact 23), He.glo_ok X G (c.fact 24), He.glo_ok X G (c.fact 25), He.glo_ok X G (c.fact 26), He.glo_ok X G (c.fact 27), He.glo_ok X G (c.fact 28), He.glo_ok X G (c.fact 29), He.glo_ok X G (c.fact 30), He.glo_ok X G (c.fact 31), He.glo_ok X G (c.fact 32), He.glo_ok X G (c.fact 33), He.glo_ok X G (c.fact 34), He.glo_ok X G (c.fact 35), He.glo_ok X G (c.fact 36), He.glo_ok X G (c.fact 37), He.glo_ok X G (c.fact 38), He.glo_ok X G (c.fact 39), He.glo_ok X G (c.fact 40), He.glo_ok X G (c.fact 41), He.glo_ok X G (c.fact 42), He.glo_ok X G (c.fact 43), He.glo_ok X G (c.fact 44), He.glo_ok X G (c.fact 45), He.glo_ok X G (c.fact 46), He.glo_ok X G (c.fact 47), He.glo_ok X G (c.fact 48), He.glo_ok X G (c.fact 49), He.glo_ok X G (c.fact 50), He.glo_ok X G (c.fact 51), He.glo_ok X G (c.fact 52), He.glo_ok X G (c.fact 53), He.glo_ok X G (c.fact 54), He.glo_ok X G (c.fact 55), He.glo_ok X G (c.fact 56), He.glo_ok X G (c.fact 57), He.cls_ok (c.fact 58), He.mkr_ok (c.fact 59), He.glo_ok X G (c.fact 60), He.cls_ok (c.fact 61), He.mkr_ok (c.fact 62), fldOk (c.fact 63), fldOk (c.fact 64), fldOk (c.fact 65), fldOk (c.fact 66), fldOk (c.fact 67), fldOk (c.fact 68), fldOk (c.fact 69), fldOk (c.fact 70), fldOk (c.fact 71), He.meth_ok (c.fact 72), He.meth_ok (c.fact 73), He.meth_ok (c.fact 74), fCall_ok (c.fact 75), fCall_ok (c.fact 76), He.meth_ok (c.fact 77), He.meth_ok (c.fact 78), He.meth_ok (c.fact 79), relEmp (c.fact 80), fOpM_ok (c.fact 81), fNe_ok (c.fact 82), fIsC_ok (c.fact 83), fIsC_ok (c.fact 84), c.def_ 0 (d := dd__law_draw), c.def_ 1 (d := dd__law_one), c.def_ 2 (d := dd__law_signs), c.def_ 3 (d := dd_are_unlike_signs), c.def_ 4 (d := dd_is_alphabet), c.def_ 5 (d := dd_check_signs), c.def_ 6 (d := dd_is_pass_over), c.def_ 7 (d := dd_check_passes), c.def_ 8 (d := dd_Chain___init__), c.def_ 9 (d := dd_is_pattern), c.def_ 10 (d := dd_is_over), c.def_ 11 (d := dd_is_sign), c.def_ 12 (d := dd_is_rule), c.def_ 13 (d := dd_check_rules), c.def_ 14 (d := dd_is_integer), c.def_ 15 (d := dd_is_number), c.def_ 16 (d := dd_Pass___init__), c.def_ 17 (d := dd__law_pass), c.def_ 18 (d := dd__law_chain_of), c.def_ 19 (d := dd__law_row), c.def_ 20 (d := dd__law_part), c.def_ 21 (d := dd__law_form), c.def_ 22 (d := dd__law_parted), c.def_ 23 (d := dd__law_otherwise), c.def_ 24 (d := dd_Chain___eq__), c.def_ 25 (d := dd__law_longer), c.def_ 26 (d := dd__law_all), c.def_ 27 (d := dd__law_give), c.def_ 28 (d := dd__law_window), c.def_ 29 (d := dd__law_out), c.def_ 30 (d := dd_check_row), c.def_ 31 (d := dd_lets_in), c.def_ 32 (d := dd_Pass_told_for), c.def_ 33 (d := dd_Pass_along), c.def_ 34 (d := dd_filled_out), c.def_ 35 (d := dd_Pass___call__), c.def_ 36 (d := dd__law_round), c.def_ 37 (d := dd_Chain___call__), c.def_ 38 (d := dd_next_memory), c.def_ 39 (d := dd_Chain_step), c.def_ 40 (d := dd_check_ring), c.def_ 41 (d := dd_Pass_ring), c.def_ 42 (d := dd_Chain_ring), c.def_ 43 (d := dd__law_right), c.def_ 44 (d := dd__law_bag), c.def_ 45 (d := dd_law)⟩
theorem facts {h : Heap} {f : Addr} (X : K.In h) (G : h.Ns mainGlobals mg) (hfa : mg ("law" : Str) = some (.ref f)) (c : hk.Says K) : ∃ fd : FuncData,
    (∀ (s : Shared) (v : Value), BindsTo s fd ⟨[v], []⟩ [("_law_cells", v)]) ∧ ∀ base : Heap, K.In base → base.Ns mainGlobals mg → Nu.FnOk P w K mg base (L2N.CX P w) 10 f fd ["_law_cells"] (spM K [false] m_law) := by
  have a := ax_of X G c
  obtain ⟨fd, F⟩ := a.F_law
  have e := hfa.symm.trans a.g_law
  cases e
  have b := FunD.bindsA (ps := ["_law_cells"]) F fun _ _ _ _ _ _ us hl => match us, hl with | [_], _ => rfl
  exact ⟨fd, fun s v => b s [v] rfl, fun base _ _ => ok_law a F⟩
end Law

namespace Law
open PySem Nu L2
structure Bag where
  a : Int
  b : Int
  c : Int
def Bag.d (b : Bag) : D := .lst [.int b.a, .int b.b, .int b.c]
theorem draw_raw (a b c n : Int) (h0 : 0 < n) (h1 : n < 1000000) {Q : Mr → Prop} (h : ∀ (r a' b' c' : Int), 0 ≤ r → r < n → wpM (.ok (.int r) false [.lst [.int a', .int b', .int c']]) Q) : wpM (m__law_draw [.lst [.int a, .int b, .int c], .int n]) Q := by
  refine wp_body ?_
  by_cases ha : 0 < a
  · simp [sem__law_draw, L2.atI, L2.ixN, ha, gMod_int h0, gDiv_int ⟨h0, (by omega : n < 1073741824)⟩]
    exact h _ _ _ _ (Int.emod_nonneg _ (by omega)) (Int.emod_lt_of_pos _ h0)
  · have e1 : gMul (.int 104723) (.int (c + 1)) = some (.int (104723 * (c + 1)), false) := gMul_i (.inl (by decide))
    have e2 : gMul (.int 5) (.int (c + 1)) = some (.int (5 * (c + 1)), false) := gMul_i (.inl (by decide))
    have e3 : ∀ h : Int, gMul (.int h) (.int (h % 60013 + 40009)) = some (.int (h * (h % 60013 + 40009)), false) := fun h => gMul_i (.inr (by omega))
    have e4 : ∀ h : Int, gMod (.int h) (.int 60013) = some (.int (h % 60013), false) := fun h => gMod_int (by decide)
    have e5 : ∀ h : Int, gMod (.int h) (.int 2147483629) = some (.int (h % 2147483629), false) := fun h => gMod_int (by decide)
    have e6 : ∀ h : Int, gDiv (.int h) (.int 509) = some (.int (h / 509), false) := fun h => gDiv_int (by decide)
    simp [sem__law_draw, L2.atI, L2.ixN, ha, gMod_int h0, e1, e2, e3, e4, e5, e6]
    exact h _ _ _ _ (Int.emod_nonneg _ (by omega)) (Int.emod_lt_of_pos _ h0)
theorem draw_wp {b : Bag} {i : Int} {Q : Mr → Prop} (n : Nat) (hi : i = n) (h0 : 0 < n) (h1 : n < 1000) (h : ∀ (r : Nat) (b' : Bag), r < n → wpM (.ok (.int r) false [b'.d]) Q) : wpM (m__law_draw [b.d, .int i]) Q := by
  subst hi
  refine draw_raw b.a b.b b.c n (by omega) (by omega) fun r a' b' c' r0 r1 => ?_
  obtain ⟨k, rfl⟩ := Int.eq_ofNat_of_zero_le r0
  exact h k ⟨a', b', c'⟩ (by omega)
/-- one of a list, of a text -/
theorem oneL_wp {b : Bag} {ds : List D} {Q : Mr → Prop} (h0 : 0 < ds.length) (h1 : ds.length < 1000) (h : ∀ d (b' : Bag), d ∈ ds → wpM (.ok d false [b'.d]) Q) : wpM (m__law_one [b.d, .lst ds]) Q := by
  refine wp_body ?_
  simp [sem__law_one]
  refine draw_wp ds.length rfl h0 (by omega) fun r b' hr => ?_
  have e : ds[r]? = some ds[r] := by simp [hr]
  simp [Bag.d, Nu.atI_nat, e]
  exact h _ _ (List.getElem_mem hr)
theorem oneS_wp {b : Bag} {z : List Cp} {Q : Mr → Prop} (h0 : 0 < z.length) (h1 : z.length < 1000) (h : ∀ c (b' : Bag), c ∈ z → wpM (.ok (.str [c]) false [b'.d]) Q) : wpM (m__law_one [b.d, .str z]) Q := by
  have hz : z.length ≤ PySem.sizeLine := by rw [size16]; omega
  refine wp_body ?_
  simp [sem__law_one, gLen_s hz]
  refine draw_wp z.length rfl h0 (by omega) fun r b' hr => ?_
  have e : z[r]? = some z[r] := by simp [hr]
  simp [Bag.d, Nu.atI_nat, e, gIx_s hz]
  exact h _ _ (List.getElem_mem hr)
theorem erase_map {α β : Type} (f : α → β) : ∀ (l : List α) (i : Nat), (l.map f).eraseIdx i = (l.eraseIdx i).map f
  | [], _ => rfl
  | _ :: _, 0 => rfl
  | x :: l, i + 1 => by simp [erase_map f l i]
theorem erase_perm {α : Type} : ∀ (l : List α) (i : Nat) (h : i < l.length), (l[i] :: l.eraseIdx i).Perm l
  | [], _, h => by simp at h
  | x :: l, 0, _ => .refl _
  | x :: l, i + 1, h => by
    simp only [List.getElem_cons_succ, List.eraseIdx_cons_succ]
    exact (List.Perm.swap _ _ _).trans (List.Perm.cons _ (erase_perm l i (by simpa using h)))
abbrev SIGNS : List Cp := lit "abcdefghijklmnopqrstuvwxyz0123456789"
def over (l z : List Cp) : Bool := z.all fun c => decide (c ∈ l)
theorem over_iff {l z : List Cp} : over l z = true ↔ ∀ c ∈ z, c ∈ l := by simp [over]
structure Alph (l : List Cp) : Prop where
  l2 : 2 ≤ l.length
  l4 : l.length ≤ 4
  nd : l.Nodup
  al : ∀ c ∈ l, c ∈ SIGNS
theorem signs_wp {b : Bag} {Q : Mr → Prop} (h : ∀ (z : List Cp) (b' : Bag), Alph z → wpM (.ok (.str z) false [b'.d]) Q) : wpM (m__law_signs [b.d]) Q := by
  refine wp_body ?_
  simp [sem__law_signs]
  refine oneL_wp (by decide) (by decide) fun d b1 hd => ?_
  obtain ⟨z, rfl, z1, z2, z3, z4⟩ : ∃ z, d = .str z ∧ z.Nodup ∧ 2 ≤ z.length ∧ z.length ≤ 36 ∧ over SIGNS z = true := by
    simp only [List.mem_cons, List.not_mem_nil, or_false] at hd
    rcases hd with rfl | rfl | rfl | rfl | rfl <;> exact ⟨_, rfl, by decide +kernel, by decide +kernel, by decide +kernel, by decide +kernel⟩
  have hz : z.length ≤ PySem.sizeLine := by rw [size16]; omega
  simp [gList, hz]
  refine draw_wp 5 rfl (by decide) (by decide) fun r b2 hr => ?_
  have hlc : (chars z).length = z.length := by simp [chars]
  obtain ⟨n, hn, n2, n4, nz⟩ : ∃ n : Nat, (2 + if (z.length : Int) - 2 < (r : Int) / 2 then (z.length : Int) - 2 else (r : Int) / 2) = n ∧ 2 ≤ n ∧ n ≤ 4 ∧ n ≤ z.length := by
    split
    · exact ⟨z.length, by omega, by omega, by omega, by omega⟩
    · exact ⟨2 + r / 2, by omega, by omega, by omega, by omega⟩
  have hro : rOk (n : Int) = true := rOk_small (by omega) (by omega)
  simp [hlc, hn, hro]
  refine wp_for (fun k ρ => ∃ (b : Bag) (found pool : List Cp), ρ = [some (b.d, .pin), some (.lst (chars pool), .ow), some (.str found, .sh), none] ∧ found.length = k ∧ pool.length + k = z.length ∧ (found ++ pool).Nodup ∧ over SIGNS (found ++ pool) = true) _ 0 _ ⟨b2, [], z, rfl, rfl, rfl, z1, z4⟩ ?_ ?_
  · rintro j hj ρ ⟨b, found, pool, rfl, h1, h2, h3, h4⟩
    simp at hj
    have hp : pool.length ≤ PySem.sizeLine := by rw [size16]; omega
    have hpc : (chars pool).length = pool.length := by simp [chars]
    simp [hpc]
    refine draw_wp pool.length rfl (by omega) (by omega) fun r b3 hr => ?_
    have e1 : gPopI (.lst (chars pool)) [.int (r : Int)] = some (.str [pool[r]], .lst (chars (pool.eraseIdx r))) := by
      simp [gPopI, hpc, hp, L2.ixN, hr, chars, erase_map]
    have e2 : gAdd (.str found) (.str [pool[r]]) = some (.str (found ++ [pool[r]]), false) := gAdd_str (by rw [size16]; simp; omega)
    simp [e1, e2]
    have pm : (found ++ pool[r] :: pool.eraseIdx r).Perm (found ++ pool) := List.Perm.append_left _ (erase_perm pool r hr)
    refine at_ ⟨b3, _, _, rfl, by simp; omega, ?_, ?_, ?_⟩
    · rw [List.length_eraseIdx_of_lt hr]; omega
    · rw [List.append_assoc]; exact pm.nodup_iff.mpr h3
    · rw [List.append_assoc]; exact over_iff.mpr fun c hc => over_iff.mp h4 c (pm.mem_iff.mp hc)
  · rintro ρ ⟨b, found, pool, rfl, h1, h2, h3, h4⟩
    simp at h1
    simp
    exact h _ _ ⟨by omega, by omega, (List.nodup_append.mp h3).1, fun c hc => over_iff.mp h4 c (by simp [hc])⟩
theorem pd_strs {l : List Cp} : ∀ {ds es : List D}, Pd (fun _ v => ∃ c, c ∈ l ∧ v = D.str [c]) ds es → ∃ z : List Cp, es = z.map (fun c => D.str [c]) ∧ z.length = ds.length ∧ ∀ c ∈ z, c ∈ l
  | _, _, .nil => ⟨[], rfl, rfl, by simp⟩
  | _, _, .cons ⟨c, hc, e⟩ r => by
    obtain ⟨z, e2, h2, h3⟩ := pd_strs r
    exact ⟨c :: z, by rw [e, e2]; rfl, by simp [h2], by simpa [hc] using h3⟩
theorem flat_one (z : List Cp) : joinL [] (z.map fun c => [c]) = z := by
  rw [joinL_nil]
  induction z with
  | nil => rfl
  | cons c r ih => simp [ih]
theorem join_ok (z : List Cp) (hz : z.length ≤ 100000) : gJoin (.str []) (.lst (z.map fun c => D.str [c])) = some (.str z, false) := by
  have e : (z.map fun c => D.str [c]) = (z.map fun c => [c]).map D.str := by simp
  have hs : ∀ y : List Cp, ((y.map fun c => [c]).map (·.length)).sum = y.length := fun y => by
    induction y with
    | nil => rfl
    | cons c r ih => simp only [List.map_cons, List.sum_cons, ih, List.length_cons, List.length_nil]; omega
  rw [e, gJoin_s (by rw [hs]; simp; omega), flat_one]
theorem row_wp {b : Bag} {l : List Cp} {far : Nat} {i : Int} {Q : Mr → Prop} (hi : i = far) (hf : far < 900) (h0 : 0 < l.length) (h1 : l.length < 1000) (h : ∀ (z : List Cp) (b' : Bag), z.length ≤ far → (∀ c ∈ z, c ∈ l) → wpM (.ok (.str z) false [b'.d]) Q) : wpM (m__law_row [b.d, .str l, .int i]) Q := by
  subst hi
  refine wp_body ?_
  simp [sem__law_row]
  refine draw_wp (far + 1) rfl (by omega) (by omega) fun n b2 hn => ?_
  have hro : rOk (n : Int) = true := rOk_small (by omega) (by omega)
  simp [hro]
  refine wp_lcA (fun ρ => ∃ b : Bag, ρ = [some (b.d, .pin), some (.str l, .sh), some (.int far, .sh), none]) (fun _ v => ∃ c, c ∈ l ∧ v = D.str [c]) ⟨b2, rfl⟩ (by simp; rw [size16]; omega) ?_ ?_
  · rintro d hd ρ ⟨b, rfl⟩
    simp
    refine oneS_wp h0 h1 fun c b3 hc => ?_
    simp
    exact ak_ ⟨_, rfl, ⟨c, hc, rfl⟩, _, rfl⟩
  · rintro es ρ hp ⟨b, rfl⟩
    obtain ⟨z, rfl, hz, hc⟩ := pd_strs hp
    simp at hz
    simp [join_ok z (by omega)]
    exact h _ _ (by omega) hc
/-- a part: the text of unlike signs of l -/
def Part (l p : List Cp) : Prop := p.Nodup ∧ ∀ c ∈ p, c ∈ l
theorem part_wp {b : Bag} {l : List Cp} {Q : Mr → Prop} (h0 : 0 < l.length) (h1 : l.length < 1000) (nd : l.Nodup) (h : ∀ (p : List Cp) (b' : Bag), Part l p → wpM (.ok (.str p) false [b'.d]) Q) : wpM (m__law_part [b.d, .str l]) Q := by
  refine wp_body ?_
  simp [sem__law_part]
  refine draw_wp 5 rfl (by omega) (by omega) fun n b2 hn => ?_
  simp
  refine oneS_wp h0 h1 fun c b3 hc => ?_
  simp
  by_cases h2 : n < 2
  · have h2' : (n : Int) < 2 := by omega
    simp [h2']
    exact h _ _ ⟨.nil, by simp⟩
  have h2' : ¬ (n : Int) < 2 := by omega
  by_cases h4 : n < 4
  · have h4' : (n : Int) < 4 := by omega
    simp [h2', h4']
    exact h _ _ ⟨by simp, by simpa using hc⟩
  have h4' : ¬ (n : Int) < 4 := by omega
  simp [h2', h4', chars_eq]
  refine wp_lcG (fun k acc ρ => ∃ (b : Bag) (z : List Cp), ρ = [some (b.d, .pin), some (.str l, .sh), some (.int n, .sh), some (.str [c], .sh), none] ∧ acc = z.map (fun c => D.str [c]) ∧ List.Sublist z (l.take k) ∧ c ∉ z) _ [] 0 _ ⟨b3, [], rfl, rfl, by simp, by simp⟩ (by simp; rw [size16]; omega) ?_ ?_
  · rintro j hj acc ρ ⟨b, z, rfl, rfl, hs, hcz⟩
    simp at hj
    have tk : l.take (0 + j + 1) = l.take (0 + j) ++ [l[j]] := by rw [Nat.zero_add]; exact (List.take_append_getElem hj).symm
    by_cases hx : l[j] = c
    · simp [hx]
      exact ak_ ⟨b, z, rfl, rfl, (by rw [tk]; exact hs.trans (List.sublist_append_left _ _)), hcz⟩
    · simp [hx]
      refine draw_wp 2 rfl (by omega) (by omega) fun r b4 hr => ?_
      by_cases hr0 : r = 0
      · simp [hr0]
        refine ak_ ⟨b4, z ++ [l[j]], rfl, by simp, ?_, by simp [hcz]; exact fun e => hx e.symm⟩
        rw [tk]
        exact List.Sublist.append hs (List.Sublist.refl _)
      · simp [hr0]
        exact ak_ ⟨b4, z, rfl, rfl, (by rw [tk]; exact hs.trans (List.sublist_append_left _ _)), hcz⟩
  · rintro acc ρ ⟨b, z, rfl, rfl, hs, hcz⟩
    simp at hs
    have hlz := hs.length_le
    have e2 : gAdd (.str [c]) (.str z) = some (.str ([c] ++ z), false) := gAdd_str (by rw [size16]; simp; omega)
    simp [join_ok z (by omega), e2]
    exact h _ _ ⟨List.nodup_cons.mpr ⟨hcz, hs.nodup nd⟩, by
      intro x hx
      rcases List.mem_cons.mp hx with rfl | hx
      · exact hc
      · exact hs.subset hx⟩
/-! ## forms of passes -/
abbrev Rule := List (List Cp) × Cp
structure Form where
  letters : List Cp
  rules : List Rule
  edge : Option Cp
  back : Nat
  ahead : Nat
def ruleD (r : Rule) : D := .tup [.tup (r.1.map D.str), .str [r.2]]
def edgeD : Option Cp → D
  | none => .non
  | some c => .str [c]
def Form.d (f : Form) : D := .tup [.str f.letters, .tup (f.rules.map ruleD), edgeD f.edge, .int f.back, .int f.ahead]
def Form.wide (f : Form) : Nat := f.back + 1 + f.ahead
structure RuleOk (l : List Cp) (n : Nat) (r : Rule) : Prop where
  len : r.1.length = n
  mr : r.2 ∈ l
  pt : ∀ p ∈ r.1, Part l p
structure Good (f : Form) : Prop where
  al : Alph f.letters
  rl : f.rules.length ≤ 12
  ru : ∀ r ∈ f.rules, RuleOk f.letters f.wide r
  ed : ∀ c, f.edge = some c → c ∈ f.letters
  bk : f.back ≤ 2
  ah : f.ahead ≤ 2
theorem pd_parts {l : List Cp} : ∀ {ds es : List D}, Pd (fun _ v => ∃ p, Part l p ∧ v = D.str p) ds es → ∃ z : List (List Cp), es = z.map D.str ∧ z.length = ds.length ∧ ∀ c ∈ z, Part l c
  | _, _, .nil => ⟨[], rfl, rfl, by simp⟩
  | _, _, .cons ⟨c, hc, e⟩ r => by
    obtain ⟨z, e2, h2, h3⟩ := pd_parts r
    exact ⟨c :: z, by rw [e, e2]; rfl, by simp [h2], by simpa [hc] using h3⟩
theorem form_wp {b : Bag} {l : List Cp} {w : Nat} {i : Int} {Q : Mr → Prop} (hi : i = w) (hw : w ≤ 2) (al : Alph l) (h : ∀ (f : Form) (b' : Bag), Good f → f.letters = l → f.back ≤ w → f.ahead ≤ w → f.rules.length ≤ 5 → wpM (.ok f.d false [b'.d]) Q) : wpM (m__law_form [b.d, .str l, .int i]) Q := by
  subst hi
  have l2 := al.l2
  have l4 := al.l4
  refine wp_body ?_
  simp [sem__law_form]
  refine draw_wp (w + 1) rfl (by omega) (by omega) fun bk b2 hb => ?_
  simp
  refine draw_wp (w + 1) rfl (by omega) (by omega) fun ah b3 ha => ?_
  simp
  refine draw_wp 5 rfl (by omega) (by omega) fun n b4 hn => ?_
  have hro : rOk (1 + (n : Int)) = true := rOk_small (by omega) (by omega)
  simp [hro]
  refine wp_for (fun k ρ => ∃ (b : Bag) (rs : List Rule), ρ = [some (b.d, .pin), some (.str l, .sh), some (.int w, .sh), some (.int bk, .sh), some (.int ah, .sh), some (.lst (rs.map ruleD), .ow), none, none, none] ∧ rs.length = k ∧ ∀ r ∈ rs, RuleOk l (bk + 1 + ah) r) _ 0 _ ⟨b4, [], rfl, rfl, by simp⟩ ?_ ?_
  · rintro j hj ρ ⟨b, rs, e, h1, h2⟩
    subst e
    simp at hj
    have hro : rOk ((bk : Int) + 1 + ah) = true := rOk_small (by omega) (by omega)
    simp [hro]
    refine wp_lcA (fun ρ => ∃ b : Bag, ρ = [some (b.d, .pin), some (.str l, .sh), some (.int w, .sh), some (.int bk, .sh), some (.int ah, .sh), some (.lst (rs.map ruleD), .ow), some (.int (j : Int), .sh), none, none]) (fun _ v => ∃ p, Part l p ∧ v = D.str p) ⟨b, rfl⟩ (by simp; rw [size16]; omega) ?_ ?_
    · rintro d hd ρ ⟨b, rfl⟩
      simp
      refine part_wp (by omega) (by omega) al.nd fun p b5 hp => ?_
      simp
      exact ak_ ⟨_, rfl, ⟨p, hp, rfl⟩, _, rfl⟩
    · rintro es ρ hp ⟨b, rfl⟩
      obtain ⟨ps, rfl, hl, hpt⟩ := pd_parts hp
      simp at hl
      simp [gTuple]
      refine oneS_wp (by omega) (by omega) fun c b6 hc => ?_
      have e1 : gApp (.lst (rs.map ruleD)) [.tup [.tup (ps.map D.str), .str [c]]] = some (.non, .lst ((rs ++ [(ps, c)]).map ruleD)) := by
        simp only [gApp]
        rw [if_pos (by rw [size16]; simp; omega)]
        simp [ruleD]
      simp [e1]
      refine at_ ⟨b6, rs ++ [(ps, c)], by simp, by simp [h1], ?_⟩
      intro r hr
      rcases List.mem_append.mp hr with hr | hr
      · exact h2 r hr
      · rw [List.mem_singleton.mp hr]
        exact ⟨by show ps.length = _; omega, hc, hpt⟩
  · rintro ρ ⟨b, rs, e, h1, h2⟩
    subst e
    have h1' : rs.length = 1 + n := by simp at h1; omega
    have hz : l.length ≤ PySem.sizeLine := by rw [size16]; omega
    have e1 : gAdd (.lst [.non, .non]) (.lst (chars l)) = some (.lst ([.non, .non] ++ chars l), true) := gAdd_lst (by rw [size16]; simp [chars]; omega)
    simp [gTuple, gList, hz, e1]
    refine oneL_wp (by simp) (by simp [chars]; omega) fun d b7 hd => ?_
    obtain ⟨ed, rfl, hed⟩ : ∃ ed, d = edgeD ed ∧ ∀ c, ed = some c → c ∈ l := by
      simp [chars] at hd
      rcases hd with rfl | ⟨c, hc, rfl⟩
      · exact ⟨none, rfl, by simp⟩
      · exact ⟨some c, rfl, by simpa using hc⟩
    simp
    exact h ⟨l, rs, ed, bk, ah⟩ b7 ⟨al, by show rs.length ≤ 12; omega, h2, hed, by show bk ≤ 2; omega, by show ah ≤ 2; omega⟩ rfl (by show bk ≤ w; omega) (by show ah ≤ w; omega) (by show rs.length ≤ 5; omega)
/-! ## what a pass is -/
def Form.o (f : Form) : D := .obj "Pass" [("signs", .str f.letters), ("rules", .tup (f.rules.map ruleD)), ("edge", edgeD f.edge), ("back", .int f.back), ("ahead", .int f.ahead), ("form", f.d)]
def fit1 (w : List Cp) (p : List Cp × Nat) : Bool := decide (p.1 = []) || (match w[p.2]? with
  | some c => decide (c ∈ p.1)
  | none => false)
def fits (p : List (List Cp)) (w : List Cp) : Bool := (p.zipIdx.map (fit1 w)).all id
def give (f : Form) (w : List Cp) : Cp := match f.rules.find? fun r => fits r.1 w with
  | some r => r.2
  | none => w.getD f.back 0
theorem enum_strs (p : List (List Cp)) : enumD (p.map D.str) = p.zipIdx.map fun q => D.tup [.int (q.2 : Nat), .str q.1] := by
  rw [enumD_eq, List.zipIdx_map, List.map_map]
  rfl
theorem fits_all (p : List (List Cp)) (w : List Cp) : gAll [.lst (p.zipIdx.map fun q => D.bl (fit1 w q))] = some (.bl (fits p w), false) := by
  rw [show (p.zipIdx.map fun q => D.bl (fit1 w q)) = (p.zipIdx.map (fit1 w)).map D.bl by simp, gAll_map]
  rfl
theorem lets_ok (p : List (List Cp)) (w : List Cp) (hp : p.length ≤ w.length) (hw : w.length ≤ 1000) : m_lets_in [.tup (p.map D.str), .str w] = .ok (.bl (fits p w)) false [] := by
  have hz : w.length ≤ PySem.sizeLine := by rw [size16]; omega
  refine eqM (wp_body ?_)
  simp [sem_lets_in, enum_strs]
  refine wp_lcM (fun q : List Cp × Nat => D.tup [.int (q.2 : Nat), .str q.1]) (fun q => D.bl (fit1 w q)) _ (by simp; rw [size16]; omega) ?_ ?_
  · rintro ⟨x, i⟩ hq
    have hi : i < w.length := by have := (List.mem_zipIdx' hq).1; omega
    by_cases hx : x = []
    · simp [hx]
      exact ak_ ⟨by simp [fit1, hx], rfl⟩
    · simp [hx, gIx_s hz, Nu.atI_nat, hi]
      exact ak_ ⟨by simp [fit1, hx, hi], rfl⟩
  · simp [fits_all]
    exact okM
theorem told_ok (f : Form) (g : Good f) (w : List Cp) (hw : w.length = f.wide) : m_Pass_told_for [f.o, .str w] = .ok (.str [give f w]) false [] := by
  have hb := g.bk
  have ha := g.ah
  unfold Form.wide at hw
  have hz : w.length ≤ PySem.sizeLine := by rw [size16]; omega
  have hg : getF cs_rules "rules" f.o = some (.tup (f.rules.map ruleD), false) := rfl
  have hg2 : getF cs_back "back" f.o = some (.int f.back, false) := rfl
  refine eqM (wp_body ?_)
  simp [sem_Pass_told_for, hg]
  refine wp_forL (fun ds ρ => ∃ rs, ds = rs.map ruleD ∧ ρ = [some (f.o, .sh), some (.str w, .sh), none, none] ∧ (∀ r ∈ rs, r ∈ f.rules) ∧ f.rules.find? (fun r => fits r.1 w) = rs.find? (fun r => fits r.1 w)) _ _ ⟨f.rules, rfl, rfl, fun _ h => h, rfl⟩ ?_ ?_
  · rintro d ds ρ ⟨rs, e1, e2, h1, h2⟩
    subst e2
    cases rs with
    | nil => cases e1
    | cons r rs =>
      cases e1
      have hr := g.ru r (h1 r (by simp))
      have hp := lets_ok r.1 w (by rw [hr.len]; unfold Form.wide; omega) (by omega)
      by_cases hf : fits r.1 w = true
      · simp [ruleD, hp, hf]
        rw [List.find?_cons, hf] at h2
        unfold give
        rw [h2]
        exact okM
      · simp [ruleD, hp, hf]
        exact at_ ⟨rs, rfl, rfl, fun x hx => h1 x (by simp [hx]), by rw [h2, List.find?_cons, Bool.eq_false_iff.mpr hf]⟩
  · rintro ρ ⟨rs, e1, e2, h1, h2⟩
    subst e2
    have : rs = [] := by simpa using e1.symm
    subst this
    have hk : f.back < w.length := by omega
    simp [hg2, gIx_s hz, Nu.atI_nat, hk]
    unfold give
    rw [h2]
    exact okE (by simp [hk])
theorem give_ok (f : Form) (g : Good f) (w : List Cp) (hw : w.length = f.wide) : m__law_give [f.d, .str w] = .ok (.str [give f w]) false [] := by
  have hb := g.bk
  have ha := g.ah
  unfold Form.wide at hw
  have hz : w.length ≤ PySem.sizeLine := by rw [size16]; omega
  have hg : L2.atI [D.str f.letters, D.tup (f.rules.map ruleD), edgeD f.edge, D.int f.back, D.int f.ahead] 1 = some (D.tup (f.rules.map ruleD)) := rfl
  have hg2 : L2.atI [D.str f.letters, D.tup (f.rules.map ruleD), edgeD f.edge, D.int f.back, D.int f.ahead] 3 = some (D.int f.back) := rfl
  refine eqM (wp_body ?_)
  simp [sem__law_give, Form.d, hg]
  refine wp_forL (fun ds ρ => ∃ rs, ds = rs.map ruleD ∧ ρ = [some (f.d, .sh), some (.str w, .sh), none, none, none, none] ∧ (∀ r ∈ rs, r ∈ f.rules) ∧ f.rules.find? (fun r => fits r.1 w) = rs.find? (fun r => fits r.1 w)) _ _ ⟨f.rules, rfl, rfl, fun _ h => h, rfl⟩ ?_ ?_
  · rintro d ds ρ ⟨rs, e1, e2, h1, h2⟩
    subst e2
    cases rs with
    | nil => cases e1
    | cons r rs =>
      cases e1
      have hr := g.ru r (h1 r (by simp))
      have hl : r.1.length = w.length := by rw [hr.len]; unfold Form.wide; omega
      simp [ruleD, enum_strs]
      refine wp_lcM (fun q : List Cp × Nat => D.tup [.int (q.2 : Nat), .str q.1]) (fun q => D.bl (fit1 w q)) _ (by simp; rw [size16]; omega) ?_ ?_
      · rintro ⟨x, i⟩ hq
        have hi : i < w.length := by have := (List.mem_zipIdx' hq).1; omega
        by_cases hx : x = []
        · simp [hx]
          exact ak_ ⟨by simp [fit1, hx], rfl⟩
        · simp [hx, gIx_s hz, Nu.atI_nat, hi]
          exact ak_ ⟨by simp [fit1, hx, hi], rfl⟩
      · by_cases hf : fits r.1 w = true
        · simp [fits_all, hf]
          rw [List.find?_cons, hf] at h2
          unfold give
          rw [h2]
          exact okM
        · simp [fits_all, hf]
          exact at_ ⟨rs, rfl, rfl, fun x hx => h1 x (by simp [hx]), by rw [h2, List.find?_cons, Bool.eq_false_iff.mpr hf]⟩
  · rintro ρ ⟨rs, e1, e2, h1, h2⟩
    subst e2
    have : rs = [] := by simpa using e1.symm
    subst this
    have hk : f.back < w.length := by omega
    simp [Form.d, hg2, gIx_s hz, Nu.atI_nat, hk]
    unfold give
    rw [h2]
    exact okE (by simp [hk])
theorem is_over_ok (l z : List Cp) (hz : z.length ≤ 5000) : m_is_over [.str l, .str z] = .ok (.bl (over l z)) false [] := by
  refine eqM (wp_body ?_)
  simp [sem_is_over, chars_eq]
  refine wp_lcM (fun c : Cp => D.str [c]) (fun c => D.bl (decide (c ∈ l))) _ (by rw [size16]; omega) ?_ ?_
  · intro c _
    simp
    exact ak_ ⟨rfl, rfl⟩
  · have : gAll [.lst (z.map fun c => D.bl (decide (c ∈ l)))] = some (.bl (over l z), false) := by
      rw [show (z.map fun c => D.bl (decide (c ∈ l))) = (z.map fun c => decide (c ∈ l)).map D.bl by simp, gAll_map]
      simp [over]
    simp [this]
    exact okM
theorem check_row_ok (l z : List Cp) (hz : z.length ≤ 5000) (h : over l z = true) : m_check_row [.str l, .str z] = .ok .non false [] := by
  refine eqM (wp_body ?_)
  simp [sem_check_row, is_over_ok l z hz, h]
  exact okM
@[simp] theorem fld_signs (f : Form) : getF cs_signs "signs" f.o = some (.str f.letters, false) := rfl
@[simp] theorem fld_back (f : Form) : getF cs_back "back" f.o = some (.int f.back, false) := rfl
@[simp] theorem fld_ahead (f : Form) : getF cs_ahead "ahead" f.o = some (.int f.ahead, false) := rfl
@[simp] theorem fld_edge (f : Form) : getF cs_edge "edge" f.o = some (edgeD f.edge, false) := rfl
@[simp] theorem mt_told (f : Form) : mAt tab_told_for_2 "told_for" f.o = some ⟨[], ms_Pass_told_for, m_Pass_told_for⟩ := rfl
@[simp] theorem mt_along (f : Form) : mAt tab_along_2 "along" f.o = some ⟨[], ms_Pass_along, m_Pass_along⟩ := rfl
def along (f : Form) (z : List Cp) : List Cp := (List.range (z.length + 1 - f.wide)).map fun p => give f ((z.drop p).take f.wide)
theorem cut_in (z : List Cp) (p n : Nat) (h : p + n ≤ z.length) : cutD z (some (p : Int)) (some ((p : Int) + (n : Int))) = (z.drop p).take n := by
  unfold cutD
  rw [← Int.natCast_add, HT.sIx_nat, HT.sIx_nat, Nat.min_eq_left h, Nat.min_eq_left (show p ≤ z.length by omega), Nat.add_sub_cancel_left]
theorem along_ok (f : Form) (g : Good f) (z : List Cp) (hz : z.length ≤ 20000) : m_Pass_along [f.o, .str z] = .ok (.str (along f z)) false [] := by
  have hb := g.bk
  have ha := g.ah
  have hs : z.length ≤ PySem.sizeLine := by rw [size16]; omega
  have hr : rOk ((z.length : Int) + 1 - ((f.back : Int) + 1 + (f.ahead : Int))) = true := rOk_small (by omega) (by omega)
  have hn : ((z.length : Int) + 1 - ((f.back : Int) + 1 + (f.ahead : Int))).toNat = z.length + 1 - f.wide := by unfold Form.wide; omega
  refine eqM (wp_body ?_)
  simp [sem_Pass_along, gLen_s hs, hr, hn, intsD_eq]
  refine wp_lcM (fun i : Nat => D.int (i : Int)) (fun p => D.str [give f ((z.drop p).take f.wide)]) _ (by simp; rw [size16]; omega) ?_ ?_
  · intro p hp
    have hp' : p < z.length + 1 - f.wide := List.mem_range.mp hp
    have hc : cutD z (some (p : Int)) (some ((p : Int) + ((f.back : Int) + 1 + (f.ahead : Int)))) = (z.drop p).take f.wide := by
      rw [← cut_in z p f.wide (by omega)]
      unfold Form.wide
      simp
    have hl : ((z.drop p).take f.wide).length = f.wide := by
      rw [List.length_take, List.length_drop]
      omega
    have ht := told_ok f g _ hl
    simp [toAv, gSl, hs, hc, ht]
    exact ak_ ⟨rfl, rfl⟩
  · have hj := join_ok (along f z) (by unfold along; simp; omega)
    rw [show (List.map (fun p => D.str [give f ((z.drop p).take f.wide)]) (List.range (z.length + 1 - f.wide))) = (along f z).map fun c => D.str [c] by simp [along]]
    simp [hj]
    exact okM
def eL (f : Form) (z : List Cp) : Cp := f.edge.getD (z.headD 0)
def eR (f : Form) (z : List Cp) : Cp := f.edge.getD (z.getLastD 0)
def fill (f : Form) (z : List Cp) : List Cp := if z = [] then [] else List.replicate f.back (eL f z) ++ z ++ List.replicate f.ahead (eR f z)
theorem rep_one (c : Cp) (n : Nat) : repS [c] (n : Int) = List.replicate n c := by
  unfold repS
  rw [Int.toNat_natCast]
  induction n with
  | zero => rfl
  | succ n ih => rw [List.replicate_succ, List.flatten_cons, ih]; rfl
theorem gMul_s (c : Cp) (n : Nat) (h : n ≤ 2) : gMul (.str [c]) (.int (n : Int)) = some (.str (List.replicate n c), false) := by
  simp only [gMul]
  rw [if_pos ⟨by omega, by simp, by rw [size16]; simp; omega⟩, rep_one]
theorem atI_first (z : List Cp) (h0 : z ≠ []) : L2.atI z 0 = some (z.headD 0) := by
  cases z with
  | nil => exact absurd rfl h0
  | cons c r => simp [L2.atI, L2.ixN]
theorem atI_last (z : List Cp) (h0 : z ≠ []) : L2.atI z (-1) = some (z.getLastD 0) := by
  have hpos : 0 < z.length := List.length_pos_iff.mpr h0
  unfold L2.atI L2.ixN
  rw [if_neg (by decide), if_pos (by omega)]
  show z[(-1 + (z.length : Int)).toNat]? = _
  rw [show (-1 + (z.length : Int)).toNat = z.length - 1 by omega, ← List.getLast?_eq_getElem?, List.getLastD_eq_getLast?]
  cases h : z.getLast? with
  | none => rw [List.getLast?_eq_none_iff] at h; exact absurd h h0
  | some c => rfl
theorem filled_ok (f : Form) (g : Good f) (z : List Cp) (hz : z.length ≤ 9000) : m_filled_out [.str z, edgeD f.edge, .int f.back, .int f.ahead] = .ok (.str (fill f z)) false [] := by
  have hb := g.bk
  have ha := g.ah
  have hs : z.length ≤ PySem.sizeLine := by rw [size16]; omega
  refine eqM (wp_body ?_)
  by_cases h0 : z = []
  · simp [sem_filled_out, h0]
    exact okE (by simp [fill, h0])
  · have e1 := atI_first z h0
    have e2 := atI_last z h0
    cases he : f.edge with
    | none =>
      have a1 : gAdd (.str (List.replicate f.back (z.headD 0))) (.str z) = some (.str (List.replicate f.back (z.headD 0) ++ z), false) := gAdd_str (by rw [size16]; simp; omega)
      have a2 : gAdd (.str (List.replicate f.back (z.headD 0) ++ z)) (.str (List.replicate f.ahead (z.getLastD 0))) = some (.str (List.replicate f.back (z.headD 0) ++ z ++ List.replicate f.ahead (z.getLastD 0)), false) := gAdd_str (by rw [size16]; simp; omega)
      simp [sem_filled_out, edgeD, h0, gIx_s hs, e1, e2, gMul_s _ _ hb, gMul_s _ _ ha, a1, a2, -List.append_assoc, -List.headD_eq_head?_getD, -List.getLastD_eq_getLast?]
      exact okE (by simp [fill, h0, eL, eR, he])
    | some c =>
      have a1 : gAdd (.str (List.replicate f.back c)) (.str z) = some (.str (List.replicate f.back c ++ z), false) := gAdd_str (by rw [size16]; simp; omega)
      have a2 : gAdd (.str (List.replicate f.back c ++ z)) (.str (List.replicate f.ahead c)) = some (.str (List.replicate f.back c ++ z ++ List.replicate f.ahead c), false) := gAdd_str (by rw [size16]; simp; omega)
      simp [sem_filled_out, edgeD, h0, gMul_s _ _ hb, gMul_s _ _ ha, a1, a2, -List.append_assoc]
      exact okE (by simp [fill, h0, eL, eR, he])
theorem fill_len (f : Form) (z : List Cp) : (fill f z).length ≤ f.back + z.length + f.ahead := by
  unfold fill
  split
  · simp
  · simp; omega
def out1 (f : Form) (z : List Cp) : List Cp := along f (fill f z)
theorem call_ok (f : Form) (g : Good f) (z : List Cp) (hz : z.length ≤ 5000) (ho : over f.letters z = true) : m_Pass___call__ [f.o, .str z] = .ok (.str (out1 f z)) false [] := by
  have hb := g.bk
  have ha := g.ah
  have hl := fill_len f z
  refine eqM (wp_body ?_)
  simp [sem_Pass___call__, check_row_ok f.letters z hz ho, filled_ok f g z (by omega), toAv, along_ok f g (fill f z) (by omega)]
  exact okM
/-! ## passes made -/
theorem fold_nub {α : Type} [DecidableEq α] : ∀ (x acc : List α), acc.Nodup → (x.foldl fstep acc).length ≤ acc.length + x.length ∧ ((x.foldl fstep acc).length = acc.length + x.length ↔ (acc ++ x).Nodup)
  | [], acc, h => by simp [h]
  | c :: r, acc, h => by
    rw [List.foldl_cons]
    by_cases hc : c ∈ acc
    · have e : fstep acc c = acc := by simp [fstep, hc]
      rw [e]
      obtain ⟨h1, h2⟩ := fold_nub r acc h
      refine ⟨by simp; omega, ⟨fun hl => by simp at hl; omega, fun hn => ?_⟩⟩
      rw [List.nodup_append] at hn
      exact absurd rfl (hn.2.2 c hc c (by simp))
    · have e : fstep acc c = acc ++ [c] := by simp [fstep, hc]
      rw [e]
      obtain ⟨h1, h2⟩ := fold_nub r (acc ++ [c]) (by rw [List.nodup_append]; exact ⟨h, by simp, by intro a ha b hb e'; simp at hb; subst hb; subst e'; exact hc ha⟩)
      rw [List.append_assoc] at h2
      simp only [List.length_append, List.length_cons, List.length_nil] at h1 h2 ⊢
      exact ⟨by omega, ⟨fun hl => h2.mp (by omega), fun hn => by have := h2.mpr hn; omega⟩⟩
theorem nub_len {α : Type} [DecidableEq α] (x : List α) : (nub x).length = x.length ↔ x.Nodup := by
  have := (fold_nub x [] .nil).2
  simpa [nub] using this
def unlike (l z : List Cp) : Bool := over l z && decide z.Nodup
theorem unlike_ok (l z : List Cp) (hz : z.length ≤ 1000) : m_are_unlike_signs [.str l, .str z] = .ok (.bl (unlike l z)) false [] := by
  have hs : z.length ≤ PySem.sizeLine := by rw [size16]; omega
  refine eqM (wp_body ?_)
  simp [sem_are_unlike_signs, chars_eq]
  refine wp_lcM (fun c : Cp => D.str [c]) (fun c => D.bl (decide (c ∈ l))) _ (by rw [size16]; omega) ?_ ?_
  · intro c _
    simp
    exact ak_ ⟨rfl, rfl⟩
  · have : gAll [.lst (z.map fun c => D.bl (decide (c ∈ l)))] = some (.bl (over l z), false) := by
      rw [show (z.map fun c => D.bl (decide (c ∈ l))) = (z.map fun c => decide (c ∈ l)).map D.bl by simp, gAll_map]
      simp [over]
    have h4 : z.length < 4000 := by omega
    have hi : ((nub z).length : Int) = z.length ↔ z.Nodup := by rw [← nub_len]; omega
    by_cases ho : over l z = true
    · simp [this, ho, h4, gLen_s hs]
      exact okE (by simp [unlike, ho, hi])
    · simp [this, ho]
      exact okE (by simp [unlike, ho])
def isAlph (z : List Cp) : Bool := decide (2 ≤ z.length) && (decide (z.length ≤ 4) && unlike SIGNS z)
theorem isAlph_iff {z : List Cp} : isAlph z = true ↔ Alph z := by
  constructor
  · intro h
    simp [isAlph, unlike, over] at h
    exact ⟨h.1, h.2.1, h.2.2.2, h.2.2.1⟩
  · intro h
    simp [isAlph, unlike, over, h.l2, h.l4, h.nd]
    exact h.al
theorem is_alphabet_ok (z : List Cp) (hz : z.length ≤ 1000) : m_is_alphabet [.str z] = .ok (.bl (isAlph z)) false [] := by
  have hs : z.length ≤ PySem.sizeLine := by rw [size16]; omega
  refine eqM (wp_body ?_)
  by_cases h2 : 2 ≤ z.length
  · by_cases h4 : z.length ≤ 4
    · have h2' : (2 : Int) ≤ z.length := by omega
      have h4' : (z.length : Int) ≤ 4 := by omega
      simp [sem_is_alphabet, gLen_s hs, h2', h4', unlike_ok _ z hz]
      exact okE (by simp [isAlph, h2, h4])
    · have h2' : (2 : Int) ≤ z.length := by omega
      have h4' : ¬ (z.length : Int) ≤ 4 := by omega
      simp [sem_is_alphabet, gLen_s hs, h2', h4']
      exact okE (by simp [isAlph, h4])
  · have h2' : ¬ (2 : Int) ≤ z.length := by omega
    simp [sem_is_alphabet, gLen_s hs, h2']
    exact okE (by simp [isAlph, h2])
theorem check_signs_ok (z : List Cp) (h : Alph z) : m_check_signs [.str z] = .ok .non false [] := by
  refine eqM (wp_body ?_)
  have hl := h.l4
  simp [sem_check_signs, is_alphabet_ok z (by omega), isAlph_iff.mpr h]
  exact okM
theorem is_integer_ok (i : Int) : m_is_integer [.int i] = .ok (.bl true) false [] := by
  refine eqM (wp_body ?_)
  simp [sem_is_integer]
  exact okM
theorem is_number_ok (i m : Int) : m_is_number [.int i, .int m] = .ok (.bl (decide (0 ≤ i) && decide (i ≤ m))) false [] := by
  refine eqM (wp_body ?_)
  by_cases h : 0 ≤ i
  · simp [sem_is_number, is_integer_ok, h]
    exact okE (by simp [h])
  · simp [sem_is_number, is_integer_ok, h]
    exact okE (by simp [h])
theorem is_sign_ok (l z : List Cp) (hz : z.length ≤ 1000) : m_is_sign [.str l, .str z] = .ok (.bl (over l z && decide (z.length = 1))) false [] := by
  have hs : z.length ≤ PySem.sizeLine := by rw [size16]; omega
  refine eqM (wp_body ?_)
  by_cases h : over l z = true
  · have : ((z.length : Int) = 1) = (z.length = 1) := by simp; omega
    simp [sem_is_sign, is_over_ok l z (by omega), h, gLen_s hs, this]
    exact okE (by simp [h])
  · simp [sem_is_sign, is_over_ok l z (by omega), h]
    exact okE (by simp [h])
theorem is_pattern_ok (l : List Cp) (n : Nat) (ps : List (List Cp)) (hl : ps.length ≤ 1000) (hp : ∀ p ∈ ps, p.length ≤ 1000) : m_is_pattern [.str l, .int n, .tup (ps.map D.str)] = .ok (.bl (decide (ps.length = n) && ps.all (unlike l))) false [] := by
  refine eqM (wp_body ?_)
  by_cases h : ps.length = n
  · subst h
    simp [sem_is_pattern]
    refine wp_lcM D.str (fun p => D.bl (unlike l p)) _ (by rw [size16]; omega) ?_ ?_
    · intro p hpp
      simp [unlike_ok l p (hp p hpp)]
      exact ak_ ⟨rfl, rfl⟩
    · have : gAll [.lst (ps.map fun p => D.bl (unlike l p))] = some (.bl (ps.all (unlike l)), false) := by
        rw [show (ps.map fun p => D.bl (unlike l p)) = (ps.map (unlike l)).map D.bl by simp, gAll_map]
        simp
      simp [this]
      exact okE (by simp)
  · have h' : ¬ (ps.length : Int) = n := by omega
    simp [sem_is_pattern, h, h']
    exact okE (by simp [h])
theorem is_rule_ok (l : List Cp) (n : Nat) (r : Rule) (hr : RuleOk l n r) (hn : n ≤ 5) (h4 : l.length ≤ 4) : m_is_rule [.str l, .int n, ruleD r] = .ok (.bl true) false [] := by
  have hp : ∀ p ∈ r.1, p.length ≤ 4 := fun p hp => by
    obtain ⟨h1, h2⟩ := hr.pt p hp
    exact Nat.le_trans (List.Nodup.length_le_of_subset h1 h2) h4
  have e1 := is_pattern_ok l n r.1 (by rw [hr.len]; omega) (fun p h => by have := hp p h; omega)
  have e2 : (decide (r.1.length = n) && r.1.all (unlike l)) = true := by
    simp [hr.len, unlike]
    exact fun p h => ⟨over_iff.mpr (hr.pt p h).2, (hr.pt p h).1⟩
  rw [e2] at e1
  have e3 := is_sign_ok l [r.2] (by simp)
  have e4 : (over l [r.2] && decide ([r.2].length = 1)) = true := by simp [over, hr.mr]
  rw [e4] at e3
  refine eqM (wp_body ?_)
  simp [sem_is_rule, ruleD, L2.atI, L2.ixN, e1, e3]
  exact okM
theorem check_rules_ok (f : Form) (g : Good f) {i : Int} (hi : i = f.wide) : m_check_rules [.str f.letters, .int i, .tup (f.rules.map ruleD)] = .ok .non false [] := by
  subst hi
  have hb := g.bk
  have ha := g.ah
  have hrl := g.rl
  refine eqM (wp_body ?_)
  have h12 : ¬ (12 : Int) < f.rules.length := by omega
  simp [sem_check_rules, h12]
  refine wp_forA (fun ρ => ρ = [some (.str f.letters, .sh), some (.int f.wide, .sh), some (.tup (f.rules.map ruleD), .sh), none, none]) rfl ?_ ?_
  · intro d hd ρ e
    subst e
    obtain ⟨j, r, hr, e⟩ : ∃ (j : Nat) (r : Rule), r ∈ f.rules ∧ d = .tup [.int j, ruleD r] := by
      rw [enumD_eq, List.zipIdx_map, List.map_map] at hd
      obtain ⟨q, hq, rfl⟩ := List.mem_map.mp hd
      exact ⟨q.2, q.1, (List.mem_zipIdx hq).2.2 ▸ List.getElem_mem _, rfl⟩
    subst e
    simp [is_rule_ok f.letters f.wide r (g.ru r hr) (by unfold Form.wide; omega) g.al.l4]
    exact at_ rfl
  · intro ρ e
    subst e
    simp
    exact okM
theorem init_ok (f : Form) (g : Good f) : m_Pass___init__ [.obj "Pass" [], .str f.letters, .tup (f.rules.map ruleD), edgeD f.edge, .int f.back, .int f.ahead] = .ok .non false [f.o] := by
  have hb := g.bk
  have ha := g.ah
  have n1 : m_is_number [.int f.back, .int 2] = .ok (.bl true) false [] := by rw [is_number_ok]; congr 2; simp; omega
  have n2 : m_is_number [.int f.ahead, .int 2] = .ok (.bl true) false [] := by rw [is_number_ok]; congr 2; simp; omega
  have s1 : ∀ v ρ, setF cs_signs 0 "signs" v (some (.obj "Pass" [], .pin) :: ρ) = some (some (.obj "Pass" [("signs", v)], .pin) :: ρ) := fun _ _ => rfl
  have s2 : ∀ a v ρ, setF cs_rules 0 "rules" v (some (.obj "Pass" [("signs", a)], .pin) :: ρ) = some (some (.obj "Pass" [("signs", a), ("rules", v)], .pin) :: ρ) := fun _ _ _ => rfl
  have s3 : ∀ a b v ρ, setF cs_edge 0 "edge" v (some (.obj "Pass" [("signs", a), ("rules", b)], .pin) :: ρ) = some (some (.obj "Pass" [("signs", a), ("rules", b), ("edge", v)], .pin) :: ρ) := fun _ _ _ _ => rfl
  have s4 : ∀ a b c v ρ, setF cs_back 0 "back" v (some (.obj "Pass" [("signs", a), ("rules", b), ("edge", c)], .pin) :: ρ) = some (some (.obj "Pass" [("signs", a), ("rules", b), ("edge", c), ("back", v)], .pin) :: ρ) := fun _ _ _ _ _ => rfl
  have s5 : ∀ a b c d v ρ, setF cs_ahead 0 "ahead" v (some (.obj "Pass" [("signs", a), ("rules", b), ("edge", c), ("back", d)], .pin) :: ρ) = some (some (.obj "Pass" [("signs", a), ("rules", b), ("edge", c), ("back", d), ("ahead", v)], .pin) :: ρ) := fun _ _ _ _ _ _ => rfl
  have s6 : ∀ a b c d e v ρ, setF cs_form 0 "form" v (some (.obj "Pass" [("signs", a), ("rules", b), ("edge", c), ("back", d), ("ahead", e)], .pin) :: ρ) = some (some (.obj "Pass" [("signs", a), ("rules", b), ("edge", c), ("back", d), ("ahead", e), ("form", v)], .pin) :: ρ) := fun _ _ _ _ _ _ _ => rfl
  refine eqM (wp_body ?_)
  cases he : f.edge with
  | none =>
    simp [sem_Pass___init__, check_signs_ok f.letters g.al, w_forC, w_forN, n1, n2, check_rules_ok f g (i := (f.back : Int) + 1 + f.ahead) (by unfold Form.wide; omega), edgeD, s1, s2, s3, s4, s5, s6]
    exact okE (by simp [Form.o, Form.d, he, edgeD])
  | some c =>
    have hc : m_is_sign [.str f.letters, .str [c]] = .ok (.bl true) false [] := by rw [is_sign_ok _ _ (by simp)]; congr 2; simp [over, g.ed c he]
    simp [sem_Pass___init__, check_signs_ok f.letters g.al, w_forC, w_forN, n1, n2, check_rules_ok f g (i := (f.back : Int) + 1 + f.ahead) (by unfold Form.wide; omega), edgeD, s1, s2, s3, s4, s5, s6, hc]
    exact okE (by simp [Form.o, Form.d, he, edgeD])
theorem pass_ok (f : Form) (g : Good f) : m__law_pass [f.d] = .ok f.o true [] := by
  refine eqM (wp_body ?_)
  have h0 : L2.atI [D.str f.letters, D.tup (f.rules.map ruleD), edgeD f.edge, D.int f.back, D.int f.ahead] 0 = some (D.str f.letters) := rfl
  have h1 : L2.atI [D.str f.letters, D.tup (f.rules.map ruleD), edgeD f.edge, D.int f.back, D.int f.ahead] 1 = some (D.tup (f.rules.map ruleD)) := rfl
  have h2 : L2.atI [D.str f.letters, D.tup (f.rules.map ruleD), edgeD f.edge, D.int f.back, D.int f.ahead] 2 = some (edgeD f.edge) := rfl
  have h3 : L2.atI [D.str f.letters, D.tup (f.rules.map ruleD), edgeD f.edge, D.int f.back, D.int f.ahead] 3 = some (D.int f.back) := rfl
  have h4 : L2.atI [D.str f.letters, D.tup (f.rules.map ruleD), edgeD f.edge, D.int f.back, D.int f.ahead] 4 = some (D.int f.ahead) := rfl
  simp [sem__law_pass, Form.d, h0, h1, h2, h3, h4, noTmp, init_ok f g]
  exact okM
/-! ## the law's own outcomes -/
def charAt (f : Form) (z : List Cp) (s : Int) : Cp := if 0 ≤ s ∧ s < z.length then z.getD s.toNat 0 else if s < 0 then eL f z else eR f z
def win (f : Form) (z : List Cp) (p : Nat) : List Cp := (List.range f.wide).map fun i : Nat => charAt f z ((p : Int) - f.back + i)
@[simp] theorem fd0 (f : Form) : gIx f.d (.int 0) = some (.str f.letters, false) := rfl
@[simp] theorem fd1 (f : Form) : gIx f.d (.int 1) = some (.tup (f.rules.map ruleD), false) := rfl
@[simp] theorem fd2 (f : Form) : gIx f.d (.int 2) = some (edgeD f.edge, false) := rfl
@[simp] theorem fd3 (f : Form) : gIx f.d (.int 3) = some (.int f.back, false) := rfl
@[simp] theorem fd4 (f : Form) : gIx f.d (.int 4) = some (.int f.ahead, false) := rfl
theorem window_ok (f : Form) (g : Good f) (z : List Cp) (p : Nat) (hp : p < z.length) (hz : z.length ≤ 10000) : m__law_window [f.d, .str z, .int p] = .ok (.str (win f z p)) false [] := by
  have hb := g.bk
  have ha := g.ah
  have hs : z.length ≤ PySem.sizeLine := by rw [size16]; omega
  have h0 : z ≠ [] := by intro e; subst e; simp at hp
  have hr1 : rOk ((p : Int) - f.back) = true := rOk_small (by omega) (by omega)
  have hr2 : rOk ((p : Int) + f.ahead + 1) = true := rOk_small (by omega) (by omega)
  have hn : ((p : Int) + f.ahead + 1 - ((p : Int) - f.back)).toNat = f.wide := by unfold Form.wide; omega
  have hw : f.wide ≤ 5 := by unfold Form.wide; omega
  refine eqM (wp_body ?_)
  simp [sem__law_window, hr1, hr2, hn]
  refine wp_for (fun k ρ => ρ = [some (f.d, .sh), some (.str z, .sh), some (.int p, .sh), some (.str ((List.range k).map fun i : Nat => charAt f z ((p : Int) - f.back + i)), .sh), none]) _ 0 _ rfl ?_ ?_
  · intro j hj ρ e
    subst e
    simp at hj
    have key : ∀ c : Cp, gAdd (.str ((List.range (0 + j)).map fun i : Nat => charAt f z ((p : Int) - f.back + i))) (.str [c]) = some (.str (((List.range (0 + j)).map fun i : Nat => charAt f z ((p : Int) - f.back + i)) ++ [c]), false) := fun c => gAdd_str (by rw [size16]; simp; omega)
    have fin : ∀ c, c = charAt f z ((p : Int) - f.back + j) → ((List.range (0 + j)).map fun i : Nat => charAt f z ((p : Int) - f.back + i)) ++ [c] = (List.range (0 + j + 1)).map fun i : Nat => charAt f z ((p : Int) - f.back + i) := fun c e => by
      rw [List.range_succ, List.map_append, e]; simp
    generalize hS : (List.range (0 + j)).map (fun i : Nat => charAt f z ((p : Int) - f.back + i)) = S at key fin ⊢
    by_cases h1 : 0 ≤ (p : Int) - f.back + j
    · by_cases h2 : (p : Int) - f.back + j < z.length
      · obtain ⟨q, hq⟩ := Int.eq_ofNat_of_zero_le h1
        have hq2 : q < z.length := by omega
        have h2' : (q : Int) < z.length := by omega
        simp [gLen_s hs, hq, h2', gIx_s hs, Nu.atI_nat, hq2, key]
        refine at_ ?_
        rw [fin _ (by simp [charAt, hq, hq2])]
      · cases he : f.edge with
        | none =>
          have h3 : ¬ (p : Int) - f.back + j < 0 := by omega
          simp [gLen_s hs, h1, h2, h3, gIx_s hs, he, edgeD, atI_last z h0, key, -List.getLastD_eq_getLast?]
          refine at_ ?_
          rw [fin _ (by simp [charAt, h1, h2, h3, eR, he])]
        | some c =>
          have h3 : ¬ (p : Int) - f.back + j < 0 := by omega
          simp [gLen_s hs, h1, h2, h3, gIx_s hs, he, edgeD, key]
          refine at_ ?_
          rw [fin _ (by simp [charAt, h1, h2, h3, eR, he])]
    · have h3 : (p : Int) - f.back + j < 0 := by omega
      cases he : f.edge with
      | none =>
        simp [gLen_s hs, h1, h3, gIx_s hs, he, edgeD, atI_first z h0, key, -List.headD_eq_head?_getD]
        refine at_ ?_
        rw [fin _ (by simp [charAt, h1, h3, eL, he])]
      | some c =>
        simp [gLen_s hs, h1, h3, gIx_s hs, he, edgeD, key]
        refine at_ ?_
        rw [fin _ (by simp [charAt, h1, h3, eL, he])]
  · intro ρ e
    subst e
    simp
    exact okE (by simp [win])
theorem win_eq (f : Form) (z : List Cp) (p : Nat) (hp : p < z.length) : win f z p = ((fill f z).drop p).take f.wide := by
  have h0 : z ≠ [] := by intro e; subst e; simp at hp
  have hf : fill f z = List.replicate f.back (eL f z) ++ z ++ List.replicate f.ahead (eR f z) := by simp [fill, h0]
  have hl : (fill f z).length = f.back + z.length + f.ahead := by simp [fill, h0]; omega
  rw [hf] at hl ⊢
  apply List.ext_getElem
  · unfold win Form.wide
    simp
    omega
  · intro i h1 h2
    have hi : i < f.wide := by simpa [win] using h1
    simp only [win, List.getElem_map, List.getElem_range, List.getElem_take, List.getElem_drop]
    unfold Form.wide at hi
    by_cases a1 : p + i < f.back
    · have c1 : ¬ 0 ≤ (p : Int) - f.back + i := by omega
      have c2 : (p : Int) - f.back + i < 0 := by omega
      rw [List.getElem_append_left (by simp; omega), List.getElem_append_left (by simpa using a1)]
      simp [charAt, c1, c2]
    · by_cases a2 : p + i - f.back < z.length
      · have c1 : 0 ≤ (p : Int) - f.back + i := by omega
        have c2 : (p : Int) - f.back + i < z.length := by omega
        have c3 : ((p : Int) - f.back + i).toNat = p + i - f.back := by omega
        rw [List.getElem_append_left (by simp; omega), List.getElem_append_right (by simp; omega)]
        simp [charAt, c1, c2, c3, a2]
      · have c1 : 0 ≤ (p : Int) - f.back + i := by omega
        have c2 : ¬ (p : Int) - f.back + i < z.length := by omega
        have c3 : ¬ (p : Int) - f.back + i < 0 := by omega
        rw [List.getElem_append_right (by simp; omega)]
        simp [charAt, c1, c2, c3]
theorem out1_eq (f : Form) (z : List Cp) : out1 f z = (List.range z.length).map fun p => give f (win f z p) := by
  unfold out1 along
  by_cases h0 : z = []
  · subst h0
    have : (fill f []).length + 1 - f.wide = 0 := by unfold Form.wide; simp [fill]; omega
    rw [this]
    rfl
  · have hl : (fill f z).length + 1 - f.wide = z.length := by unfold Form.wide; simp [fill, h0]; omega
    rw [hl]
    apply List.map_congr_left
    intro p hp
    rw [win_eq f z p (by simpa using hp)]
theorem out1_len (f : Form) (z : List Cp) : (out1 f z).length = z.length := by rw [out1_eq]; simp
theorem win_len (f : Form) (z : List Cp) (p : Nat) : (win f z p).length = f.wide := by simp [win]
def outs (fs : List Form) (z : List Cp) : List Cp := fs.foldl (fun z f => out1 f z) z
theorem outs_len (fs : List Form) (z : List Cp) : (outs fs z).length = z.length := by
  unfold outs
  induction fs generalizing z with
  | nil => rfl
  | cons f fs ih => rw [List.foldl_cons, ih, out1_len]
theorem out_ok (fs : List Form) (g : ∀ f ∈ fs, Good f) (z : List Cp) (hz : z.length ≤ 10000) : m__law_out [.lst (fs.map Form.d), .str z] = .ok (.str (outs fs z)) false [] := by
  refine eqM (wp_body ?_)
  simp [sem__law_out]
  refine wp_forL (fun ds ρ => ∃ (rs : List Form) (y : List Cp), ds = rs.map Form.d ∧ ρ = [some (.lst (fs.map Form.d), .sh), some (.str y, .sh), none, none] ∧ (∀ r ∈ rs, r ∈ fs) ∧ outs fs z = outs rs y ∧ y.length = z.length) _ _ ⟨fs, z, rfl, rfl, fun _ h => h, rfl, rfl⟩ ?_ ?_
  · rintro d ds ρ ⟨rs, y, e1, e2, h1, h2, h3⟩
    subst e2
    cases rs with
    | nil => cases e1
    | cons r rs =>
      cases e1
      have gr := g r (h1 r (by simp))
      have hs : y.length ≤ PySem.sizeLine := by rw [size16]; omega
      have hr : rOk (y.length : Int) = true := rOk_small (by omega) (by omega)
      simp [gLen_s hs, hr, intsD_eq]
      refine wp_lcM (fun i : Nat => D.int (i : Int)) (fun p => D.str [give r (win r y p)]) _ (by simp; rw [size16]; omega) ?_ ?_
      · intro p hp
        have hp' : p < y.length := by simpa using hp
        simp [window_ok r gr y p hp' (by omega), give_ok r gr _ (win_len r y p)]
        exact ak_ ⟨rfl, rfl⟩
      · have hj := join_ok (out1 r y) (by rw [out1_len]; omega)
        rw [show (List.map (fun p => D.str [give r (win r y p)]) (List.range y.length)) = (out1 r y).map fun c => D.str [c] by simp [out1_eq]]
        simp [hj]
        exact at_ ⟨rs, out1 r y, rfl, rfl, fun x hx => h1 x (by simp [hx]), h2, by rw [out1_len, h3]⟩
  · rintro ρ ⟨rs, y, e1, e2, h1, h2, h3⟩
    subst e2
    have : rs = [] := by simpa using e1.symm
    subst this
    simp
    exact okE (by rw [h2]; rfl)
/-! ## all words -/
def longer (ws : List (List Cp)) (l : List Cp) : List (List Cp) := ws.flatMap fun w => l.map fun c => w ++ [c]
theorem longer_len (ws : List (List Cp)) (l : List Cp) : (longer ws l).length = ws.length * l.length := by
  unfold longer
  induction ws with
  | nil => simp
  | cons w ws ih => simp [ih, Nat.succ_mul]; omega
theorem longer_ok (ws : List (List Cp)) (l : List Cp) (h1 : ws.length ≤ 10000) (h2 : l.length ≤ 4) (h3 : ∀ w ∈ ws, w.length ≤ 1000) : m__law_longer [.lst (ws.map D.str), .str l] = .ok (.lst ((longer ws l).map D.str)) true [] := by
  refine eqM (wp_body ?_)
  simp [sem__law_longer]
  refine wp_forL (fun ds ρ => ∃ (rs ys : List (List Cp)), ds = rs.map D.str ∧ ρ = [some (.lst (ws.map D.str), .sh), some (.str l, .sh), some (.lst (ys.map D.str), .ow), none, none] ∧ (∀ r ∈ rs, r ∈ ws) ∧ longer ws l = ys ++ longer rs l) _ _ ⟨ws, [], rfl, rfl, fun _ h => h, rfl⟩ ?_ ?_
  · rintro d ds ρ ⟨rs, ys, e1, e2, h4, h5⟩
    subst e2
    cases rs with
    | nil => cases e1
    | cons r rs =>
      cases e1
      have hr := h3 r (h4 r (by simp))
      have hl : ys.length + l.length ≤ 40000 := by
        have := congrArg List.length h5
        rw [longer_len, List.length_append, longer_len, List.length_cons] at this
        have h6 : ws.length * l.length ≤ 10000 * 4 := Nat.mul_le_mul h1 h2
        rw [Nat.succ_mul] at this
        omega
      simp [chars_eq]
      refine wp_lcM (fun c : Cp => D.str [c]) (fun c => D.str (r ++ [c])) _ (by rw [size16]; omega) ?_ ?_
      · intro c hc
        have e : gAdd (.str r) (.str [c]) = some (.str (r ++ [c]), false) := gAdd_str (by rw [size16]; simp; omega)
        simp [e]
        exact ak_ ⟨rfl, rfl⟩
      · have e : gAdd (.lst (ys.map D.str)) (.lst (l.map fun c => D.str (r ++ [c]))) = some (.lst (ys.map D.str ++ l.map fun c => D.str (r ++ [c])), true) := gAdd_lst (by rw [size16]; simp; omega)
        simp [e]
        refine at_ ⟨rs, ys ++ l.map fun c => r ++ [c], rfl, by simp, fun x hx => h4 x (by simp [hx]), ?_⟩
        rw [h5]
        simp [longer]
  · rintro ρ ⟨rs, ys, e1, e2, h4, h5⟩
    subst e2
    have : rs = [] := by simpa using e1.symm
    subst this
    simp
    exact okE (by rw [h5]; simp [longer])
def words (l : List Cp) : Nat → List (List Cp)
  | 0 => [[]]
  | n + 1 => longer (words l n) l
theorem words_len (l : List Cp) (hl : l.length ≤ 4) : ∀ n, (words l n).length ≤ 4 ^ n
  | 0 => by simp [words]
  | n + 1 => by
    rw [words, longer_len, Nat.pow_succ]
    exact Nat.mul_le_mul (words_len l hl n) hl
theorem words_mem (l : List Cp) : ∀ n w, w ∈ words l n → w.length = n ∧ ∀ c ∈ w, c ∈ l
  | 0, w, h => by simp [words] at h; subst h; simp
  | n + 1, w, h => by
    simp [words, longer] at h
    obtain ⟨v, hv, c, hc, rfl⟩ := h
    obtain ⟨h1, h2⟩ := words_mem l n v hv
    refine ⟨by simp [h1], fun x hx => ?_⟩
    rcases List.mem_append.mp hx with hx | hx
    · exact h2 x hx
    · rw [List.mem_singleton.mp hx]; exact hc
/-! ## the bag -/
theorem cutD_mem {α : Type} {xs : List α} {lo hi : Option Int} {d : α} (h : d ∈ cutD xs lo hi) : d ∈ xs := List.mem_of_mem_drop (List.mem_of_mem_take h)
theorem bag_wp {ns : List Int} {k : Nat} {Q : Mr → Prop} (h : ∀ b : Bag, wpM (.ok b.d true []) Q) : wpM (m__law_bag [.scr (ns.map D.int), .int k]) Q := by
  have m1 : ∀ x : Int, gMul (.int 90001) (.int x) = some (.int (90001 * x), false) := fun x => gMul_i (.inl (by decide))
  have m2 : ∀ x : Int, gMul (.int x) (.int 31337) = some (.int (x * 31337), false) := fun x => gMul_i (.inr (by decide))
  have m3 : ∀ x : Int, gMul (.int 7) (.int x) = some (.int (7 * x), false) := fun x => gMul_i (.inl (by decide))
  have m4 : ∀ x : Int, gMul (.int 48271) (.int x) = some (.int (48271 * x), false) := fun x => gMul_i (.inl (by decide))
  have p1 : gPow (.int 10) (.int 15) = some (.int 1000000000000000, false) := rfl
  refine wp_body ?_
  by_cases hk : k < ns.length
  · have hk' : (k : Int) < ns.length := by omega
    have e : (ns.map D.int)[k]? = some (.int ns[k]) := by simp [hk]
    simp [sem__law_bag, hk', Nu.atI_nat, e, m1, gSl]
    refine wp_forA (fun ρ => ∃ c s : Int, ρ = [some (.scr (ns.map D.int), .sh), some (.int k, .sh), some (.int c, .sh), some (.int s, .sh), none, none]) ⟨_, _, rfl⟩ ?_ ?_
    · rintro d hd ρ ⟨c, s, e⟩
      subst e
      obtain ⟨i, _, rfl⟩ := List.mem_map.mp (cutD_mem hd)
      simp [m2, m3]
      exact at_ ⟨_, _, rfl⟩
    · rintro ρ ⟨c, s, e⟩
      subst e
      by_cases h1 : c < 0
      · simp [h1, m4]
        exact h ⟨_, _, _⟩
      · by_cases h2 : 1000000000000000 ≤ c
        · simp [h1, p1, h2, m4]
          exact h ⟨_, _, _⟩
        · simp [h1, p1, h2, m4]
          exact h ⟨_, _, _⟩
  · have hk' : ¬ (k : Int) < ns.length := by omega
    simp [sem__law_bag, hk', m1, gSl]
    refine wp_forA (fun ρ => ∃ c s : Int, ρ = [some (.scr (ns.map D.int), .sh), some (.int k, .sh), some (.int c, .sh), some (.int s, .sh), none, none]) ⟨_, _, rfl⟩ ?_ ?_
    · rintro d hd ρ ⟨c, s, e⟩
      subst e
      obtain ⟨i, _, rfl⟩ := List.mem_map.mp (cutD_mem hd)
      simp [m2, m3]
      exact at_ ⟨_, _, rfl⟩
    · rintro ρ ⟨c, s, e⟩
      subst e
      by_cases h1 : c < 0
      · simp [h1, m4]
        exact h ⟨_, _, _⟩
      · by_cases h2 : 1000000000000000 ≤ c
        · simp [h1, p1, h2, m4]
          exact h ⟨_, _, _⟩
        · simp [h1, p1, h2, m4]
          exact h ⟨_, _, _⟩
theorem pd_true : ∀ {ds es : List D}, Pd (fun _ v => v = D.bl true) ds es → gAll [.lst es] = some (.bl true, false)
  | _, _, .nil => rfl
  | _, _, .cons (bs := bs) e r => by
    have := pd_true r
    subst e
    simp only [gAll] at this ⊢
    simp only [bools]
    cases hb : bools bs with
    | none => rw [hb] at this; cases this
    | some v => rw [hb] at this; simpa using this
theorem turns (n m : Nat) (h : 2 ≤ m) : ∃ k : Nat, (if (if (m : Int) < (n : Int) then (m : Int) else (n : Int)) > 2 then (if (m : Int) < (n : Int) then (m : Int) else (n : Int)) else 2) = (k : Int) ∧ k ≤ m := by
  by_cases h1 : (m : Int) < n
  · rw [if_pos h1]
    split
    · exact ⟨m, rfl, Nat.le_refl _⟩
    · exact ⟨2, rfl, h⟩
  · rw [if_neg h1]
    split
    · exact ⟨n, rfl, by omega⟩
    · exact ⟨2, rfl, h⟩
theorem pd_some {P : List Cp → Prop} : ∀ {ds es : List D}, Pd (fun _ v => ∃ p, P p ∧ v = D.str p) ds es → ∃ z : List (List Cp), es = z.map D.str ∧ z.length = ds.length ∧ ∀ c ∈ z, P c
  | _, _, .nil => ⟨[], rfl, rfl, by simp⟩
  | _, _, .cons ⟨c, hc, e⟩ r => by
    obtain ⟨z, e2, h2, h3⟩ := pd_some r
    exact ⟨c :: z, by rw [e, e2]; rfl, by simp [h2], by simpa [hc] using h3⟩
theorem gMul_l2 (d : D) : gMul (.lst [d]) (.int 2) = some (.lst [d, d], true) := rfl
theorem gMul_l3 (d : D) : gMul (.lst [d]) (.int 3) = some (.lst [d, d, d], true) := rfl
theorem gNe_s2 (a b c d : List Cp) : gNe (.lst [.str a, .str b]) (.lst [.str c, .str d]) = some (.bl (!decide ([a, b] = [c, d])), false) := gNe_strs [a, b] [c, d]
theorem gNe_s3 (a b c d e f : List Cp) : gNe (.lst [.str a, .str b, .str c]) (.lst [.str d, .str e, .str f]) = some (.bl (!decide ([a, b, c] = [d, e, f])), false) := gNe_strs [a, b, c] [d, e, f]
theorem gNe_s4 (a b c d e f g h : List Cp) : gNe (.lst [.str a, .str b, .str c, .str g]) (.lst [.str d, .str e, .str f, .str h]) = some (.bl (!decide ([a, b, c, g] = [d, e, f, h])), false) := gNe_strs [a, b, c, g] [d, e, f, h]
theorem cut_take (z : List Cp) (k : Nat) : cutD z none (some (k : Int)) = z.take k := by
  unfold cutD
  rw [HT.sIx_nat, HT.sIx_none, List.drop_zero, Nat.sub_zero]
  apply List.ext_getElem?
  intro i
  simp only [List.getElem?_take]
  by_cases h : i < z.length
  · by_cases h2 : i < k
    · rw [if_pos (by omega), if_pos h2]
    · rw [if_neg (by omega), if_neg h2]
  · rw [List.getElem?_eq_none (by omega)]; simp
theorem cut_drop (z : List Cp) (k : Nat) : cutD z (some (k : Int)) none = z.drop k := by
  unfold cutD
  rw [HT.sIx_nat, HT.sIx_none]
  apply List.ext_getElem?
  intro i
  rw [List.getElem?_take, List.getElem?_drop, List.getElem?_drop]
  by_cases h : k + i < z.length
  · rw [if_pos (by omega), Nat.min_eq_left (by omega)]
  · rw [List.getElem?_eq_none (i := k + i) (by omega)]
    split
    · rename_i h2; rw [List.getElem?_eq_none (by omega)]
    · rfl
theorem cut_drop1 (z : List Cp) (k : Nat) : cutD z (some ((k : Int) + 1)) none = z.drop (k + 1) := cut_drop z (k + 1)
theorem cut_mid (z : List Cp) (i j : Nat) : cutD z (some (i : Int)) (some (j : Int)) = (z.drop i).take (j - i) := by
  unfold cutD
  rw [HT.sIx_nat, HT.sIx_nat]
  apply List.ext_getElem?
  intro k
  rw [List.getElem?_take, List.getElem?_drop, List.getElem?_take, List.getElem?_drop]
  by_cases h : i + k < z.length
  · by_cases h2 : k < j - i
    · rw [if_pos (by omega), if_pos h2, Nat.min_eq_left (by omega)]
    · rw [if_neg (by omega), if_neg h2]
  · rw [List.getElem?_eq_none (i := i + k) (by omega)]
    have : ∀ b : Prop, [Decidable b] → (if b then none else none : Option Cp) = none := fun b _ => by split <;> rfl
    rw [this]
    split
    · rename_i h2; rw [List.getElem?_eq_none (by omega)]
    · rfl
theorem gSl_s {z : List Cp} (h : z.length ≤ 100000) (lo hi : Option Int) : gSl (.str z) lo hi = some (.str (cutD z lo hi), false) := by
  have : z.length ≤ PySem.sizeLine := by rw [size16]; omega
  simp [gSl, this]
theorem max0 (h a : Nat) : (if a < h then (h : Int) - a else 0) = ((h - a : Nat) : Int) := by split <;> omega
theorem at0 {α : Type} {a : α} {r : List α} : L2.atI (a :: r) 0 = some a := by
  have := Nu.atI_nat (xs := a :: r) (i := 0)
  simpa using this
theorem at1 {α : Type} {a b : α} {r : List α} : L2.atI (a :: b :: r) 1 = some b := by
  have := Nu.atI_nat (xs := a :: b :: r) (i := 1)
  simpa using this
theorem gLen_n {z : List Cp} (h : z.length ≤ 100000) : gLen [.str z] = some (.int z.length, false) := gLen_s (by rw [size16]; omega)
theorem gAdd_n {x y : List Cp} (h : x.length + y.length ≤ 100000) : gAdd (.str x) (.str y) = some (.str (x ++ y), false) := gAdd_str (by rw [size16]; omega)
theorem over_app {l x y : List Cp} (h1 : over l x = true) (h2 : over l y = true) : over l (x ++ y) = true := by
  rw [over_iff] at *
  intro c hc
  rcases List.mem_append.mp hc with hc | hc
  · exact h1 c hc
  · exact h2 c hc
/-! ## chains -/
def sumB (fs : List Form) : Nat := (fs.map Form.back).sum
def sumA (fs : List Form) : Nat := (fs.map Form.ahead).sum
def chainO (l : List Cp) (fs : List Form) : D := .obj "Chain" [("signs", .str l), ("passes", .tup (fs.map Form.o)), ("back", .int (sumB fs)), ("ahead", .int (sumA fs)), ("reach", .int ((sumB fs : Int) + (sumA fs : Int))), ("form", .tup [.str l, .tup (fs.map Form.d)]), ("start", .tup (List.replicate fs.length (.str [])))]
def reach (fs : List Form) : Int := ((sumB fs + sumA fs : Nat) : Int)
structure GoodC (l : List Cp) (fs : List Form) : Prop where
  al : Alph l
  gd : ∀ f ∈ fs, Good f ∧ f.letters = l
  ln : fs.length ≤ 12
  wd : l.length ^ (sumB fs + sumA fs) ≤ 256
theorem GoodC.wide8 {l : List Cp} {fs : List Form} (g : GoodC l fs) : sumB fs + sumA fs ≤ 8 := by
  have h := g.wd
  have h2 : 2 ^ (sumB fs + sumA fs) ≤ l.length ^ (sumB fs + sumA fs) := Nat.pow_le_pow_left g.al.l2 _
  apply Decidable.byContradiction
  intro hc
  have h3 : 2 ^ 9 ≤ 2 ^ (sumB fs + sumA fs) := Nat.pow_le_pow_right (by decide) (by omega)
  omega
theorem o_isC (f : Form) : gIsC cs_isi "Pass" f.o = some (.bl true, false) := rfl
theorem over_pass_ok (f : Form) : m_is_pass_over [.str f.letters, f.o] = .ok (.bl true) false [] := by
  refine eqM (wp_body ?_)
  simp [sem_is_pass_over, o_isC]
  exact okM
def pw (l n : Nat) : Int := ((l ^ n : Nat) : Int)
theorem pw_0 (l : Nat) : pw l 0 = 1 := by simp [pw]
theorem pw_le {l n m : Nat} : (pw l n ≤ (m : Int)) ↔ l ^ n ≤ m := by unfold pw; omega
theorem gMul_pow (l k : Nat) (hl : l ≤ 4) : gMul (.int (pw l k)) (.int (l : Int)) = some (.int (pw l (k + 1)), false) := by
  rw [gMul_i (.inr (by omega))]
  unfold pw
  rw [Nat.pow_succ]
  simp
theorem check_passes_ok (l : List Cp) (fs : List Form) (g : GoodC l fs) : m_check_passes [.str l, .tup (fs.map Form.o)] = .ok .non false [] := by
  have hln := g.ln
  have hwd := g.wd
  have l4 := g.al.l4
  have hs : l.length ≤ PySem.sizeLine := by rw [size16]; omega
  have h12 : ¬ (12 : Int) < fs.length := by omega
  refine eqM (wp_body ?_)
  simp [sem_check_passes, h12]
  refine wp_for (fun k ρ => ρ = [some (.str l, .sh), some (.tup (fs.map Form.o), .sh), some (.int (pw l.length (sumB (fs.take k) + sumA (fs.take k))), .sh), none, none, none]) _ 0 _ (by simp [sumB, sumA, pw_0]) ?_ ?_
  · intro j hj ρ e
    subst e
    rw [Nat.zero_add]
    have hj' : j < fs.length := by simpa [enumD_eq] using hj
    obtain ⟨gf, hlf⟩ := g.gd fs[j] (List.getElem_mem hj')
    have hb := gf.bk
    have ha := gf.ah
    have e0 : (enumD (fs.map Form.o))[j] = .tup [.int (j : Nat), fs[j].o] := by simp [enumD_eq]
    rw [e0]
    have hov := over_pass_ok fs[j]
    rw [hlf] at hov
    generalize hP : sumB (fs.take j) + sumA (fs.take j) = P
    have hfin : sumB (fs.take (j + 1)) + sumA (fs.take (j + 1)) = P + (fs[j].back + fs[j].ahead) := by
      rw [← hP, List.take_succ_eq_append_getElem hj']
      simp only [sumB, sumA, List.map_append, List.sum_append, List.map_cons, List.map_nil, List.sum_cons, List.sum_nil]
      omega
    have hro : rOk ((fs[j].back : Int) + fs[j].ahead) = true := rOk_small (by omega) (by omega)
    have hn : ((fs[j].back : Int) + fs[j].ahead).toNat = fs[j].back + fs[j].ahead := by omega
    simp [hov, hro, hn]
    refine wp_for (fun k ρ => ρ = [some (.str l, .sh), some (.tup (fs.map Form.o), .sh), some (.int (pw l.length (P + k)), .sh), some (.int (j : Nat), .sh), some (fs[j].o, .sh), none]) _ 0 _ (by simp) ?_ ?_
    · intro i hi ρ e
      subst e
      rw [Nat.zero_add]
      have em := gMul_pow l.length (P + i) l4
      simp [gLen_s hs, em]
      exact at_ rfl
    · intro ρ e
      subst e
      simp only [intsD_len, Nat.zero_add]
      simp
      refine at_ ?_
      rw [hfin]
  · intro ρ e
    subst e
    have hx : sumB (fs.take (0 + (enumD (fs.map Form.o)).length)) + sumA (fs.take (0 + (enumD (fs.map Form.o)).length)) = sumB fs + sumA fs := by
      rw [show 0 + (enumD (fs.map Form.o)).length = fs.length by simp [enumD_eq], List.take_length]
    rw [hx]
    have h256 : ¬ (256 : Int) < (pw l.length (sumB fs + sumA fs)) := Int.not_lt.mpr (pw_le.mpr hwd)
    simp [h256]
    exact okM
theorem intsOf_map (xs : List Int) : intsOf (xs.map D.int) = some xs := by
  induction xs with
  | nil => rfl
  | cons x r ih => rw [List.map_cons, intsOf, ih]; rfl
theorem gSum_ok (xs : List Int) : gSum [.lst (xs.map D.int)] = some (.int xs.sum, false) := by
  simp only [gSum, intsOf_map]; rfl
theorem sum_cast (xs : List Nat) : (xs.map fun n : Nat => (n : Int)).sum = ((xs.sum : Nat) : Int) := by
  induction xs with
  | nil => rfl
  | cons x r ih => rw [List.map_cons, List.sum_cons, List.sum_cons, ih]; simp
@[simp] theorem fld_form (f : Form) : getF cs_form "form" f.o = some (f.d, false) := rfl
theorem chain_init_ok (l : List Cp) (fs : List Form) (g : GoodC l fs) : m_Chain___init__ [.obj "Chain" [], .str l, .tup (fs.map Form.o)] = .ok .non false [chainO l fs] := by
  have hln := g.ln
  have s1 : ∀ v ρ, setF cs_signs 0 "signs" v (some (.obj "Chain" [], .pin) :: ρ) = some (some (.obj "Chain" [("signs", v)], .pin) :: ρ) := fun _ _ => rfl
  have s2 : ∀ a v ρ, setF cs_passes 0 "passes" v (some (.obj "Chain" [("signs", a)], .pin) :: ρ) = some (some (.obj "Chain" [("signs", a), ("passes", v)], .pin) :: ρ) := fun _ _ _ => rfl
  have s3 : ∀ a b v ρ, setF cs_back 0 "back" v (some (.obj "Chain" [("signs", a), ("passes", b)], .pin) :: ρ) = some (some (.obj "Chain" [("signs", a), ("passes", b), ("back", v)], .pin) :: ρ) := fun _ _ _ _ => rfl
  have s4 : ∀ a b c v ρ, setF cs_ahead 0 "ahead" v (some (.obj "Chain" [("signs", a), ("passes", b), ("back", c)], .pin) :: ρ) = some (some (.obj "Chain" [("signs", a), ("passes", b), ("back", c), ("ahead", v)], .pin) :: ρ) := fun _ _ _ _ _ => rfl
  have s5 : ∀ a b c d v ρ, setF cs_reach 0 "reach" v (some (.obj "Chain" [("signs", a), ("passes", b), ("back", c), ("ahead", d)], .pin) :: ρ) = some (some (.obj "Chain" [("signs", a), ("passes", b), ("back", c), ("ahead", d), ("reach", v)], .pin) :: ρ) := fun _ _ _ _ _ _ => rfl
  have s6 : ∀ a b c d e v ρ, setF cs_form 0 "form" v (some (.obj "Chain" [("signs", a), ("passes", b), ("back", c), ("ahead", d), ("reach", e)], .pin) :: ρ) = some (some (.obj "Chain" [("signs", a), ("passes", b), ("back", c), ("ahead", d), ("reach", e), ("form", v)], .pin) :: ρ) := fun _ _ _ _ _ _ _ => rfl
  have s7 : ∀ a b c d e f v ρ, setF cs_start 0 "start" v (some (.obj "Chain" [("signs", a), ("passes", b), ("back", c), ("ahead", d), ("reach", e), ("form", f)], .pin) :: ρ) = some (some (.obj "Chain" [("signs", a), ("passes", b), ("back", c), ("ahead", d), ("reach", e), ("form", f), ("start", v)], .pin) :: ρ) := fun _ _ _ _ _ _ _ _ => rfl
  have g1 : ∀ a b c d, getF cs_back "back" (.obj "Chain" [("signs", a), ("passes", b), ("back", c), ("ahead", d)]) = some (c, false) := fun _ _ _ _ => rfl
  have g2 : ∀ a b c d, getF cs_ahead "ahead" (.obj "Chain" [("signs", a), ("passes", b), ("back", c), ("ahead", d)]) = some (d, false) := fun _ _ _ _ => rfl
  have hl : fs.length ≤ PySem.sizeLine := by rw [size16]; omega
  have eb : gSum [.lst (fs.map fun f => D.int f.back)] = some (.int (sumB fs), false) := by
    have := gSum_ok ((fs.map Form.back).map fun n : Nat => (n : Int))
    rw [sum_cast] at this
    simpa [sumB, Function.comp_def] using this
  have ea : gSum [.lst (fs.map fun f => D.int f.ahead)] = some (.int (sumA fs), false) := by
    have := gSum_ok ((fs.map Form.ahead).map fun n : Nat => (n : Int))
    rw [sum_cast] at this
    simpa [sumA, Function.comp_def] using this
  have em : gMulT (.tup [.str []]) (.int (fs.length : Int)) = some (.tup (List.replicate fs.length (.str [])), false) := by
    rw [gMulT_t (by omega) (by omega) (by simp), Int.toNat_natCast]
    congr 2
    congr 1
    induction fs.length with
    | zero => rfl
    | succ n ih => rw [List.replicate_succ, List.flatten_cons, ih]; rfl
  refine eqM (wp_body ?_)
  simp [sem_Chain___init__, check_signs_ok l g.al, check_passes_ok l fs g, s1, s2]
  refine wp_lcM Form.o (fun f => D.int f.back) fs hl (fun f _ => by simp; exact ak_ ⟨rfl, rfl⟩) ?_
  simp [eb, s3]
  refine wp_lcM Form.o (fun f => D.int f.ahead) fs hl (fun f _ => by simp; exact ak_ ⟨rfl, rfl⟩) ?_
  simp [ea, s4, g1, g2, s5]
  refine wp_lcM Form.o (fun f => f.d) fs hl (fun f _ => by simp; exact ak_ ⟨rfl, rfl⟩) ?_
  simp [gTuple, s6, em, s7]
  exact okM
/-! ## outcomes stay over the alphabet -/
theorem give_mem (f : Form) (g : Good f) (w : List Cp) (hw : w.length = f.wide) (h : ∀ c ∈ w, c ∈ f.letters) : give f w ∈ f.letters := by
  unfold give
  cases hf : f.rules.find? (fun r => fits r.1 w) with
  | some r => exact (g.ru r (List.mem_of_find?_eq_some hf)).mr
  | none =>
    have hk : f.back < w.length := by rw [hw]; unfold Form.wide; omega
    simp only [List.getD_eq_getElem?_getD, List.getElem?_eq_getElem hk, Option.getD_some]
    exact h _ (List.getElem_mem hk)
theorem headD_mem {z : List Cp} (h0 : z ≠ []) : z.headD 0 ∈ z := by
  cases z with
  | nil => exact absurd rfl h0
  | cons c r => simp
theorem lastD_mem {z : List Cp} (h0 : z ≠ []) : z.getLastD 0 ∈ z := by
  rw [List.getLastD_eq_getLast?]
  cases h : z.getLast? with
  | none => rw [List.getLast?_eq_none_iff] at h; exact absurd h h0
  | some c => exact List.mem_of_getLast? h
theorem charAt_mem (f : Form) (g : Good f) (z : List Cp) (h0 : z ≠ []) (h : ∀ c ∈ z, c ∈ f.letters) (s : Int) : charAt f z s ∈ f.letters := by
  have eL' : eL f z ∈ f.letters := by
    unfold eL
    cases he : f.edge with
    | none => exact h _ (headD_mem h0)
    | some c => exact g.ed c he
  have eR' : eR f z ∈ f.letters := by
    unfold eR
    cases he : f.edge with
    | none => exact h _ (lastD_mem h0)
    | some c => exact g.ed c he
  unfold charAt
  split
  · rename_i hs
    have hk : s.toNat < z.length := by omega
    simp only [List.getD_eq_getElem?_getD, List.getElem?_eq_getElem hk, Option.getD_some]
    exact h _ (List.getElem_mem hk)
  · split
    · exact eL'
    · exact eR'
theorem out1_over (f : Form) (g : Good f) (z : List Cp) (h : over f.letters z = true) : over f.letters (out1 f z) = true := by
  rw [over_iff] at h ⊢
  rw [out1_eq]
  intro c hc
  obtain ⟨p, hp, rfl⟩ := List.mem_map.mp hc
  have hp' : p < z.length := by simpa using hp
  have h0 : z ≠ [] := by intro e; subst e; simp at hp'
  refine give_mem f g _ (win_len f z p) fun c hc => ?_
  obtain ⟨i, _, rfl⟩ := List.mem_map.mp hc
  exact charAt_mem f g z h0 h _
/-! ## a chain's outcome -/
@[simp] theorem cfld_signs (l : List Cp) (fs : List Form) : getF cs_signs "signs" (chainO l fs) = some (.str l, false) := rfl
@[simp] theorem cfld_passes (l : List Cp) (fs : List Form) : getF cs_passes "passes" (chainO l fs) = some (.tup (fs.map Form.o), false) := rfl
@[simp] theorem cfld_back (l : List Cp) (fs : List Form) : getF cs_back "back" (chainO l fs) = some (.int (sumB fs), false) := rfl
@[simp] theorem cfld_ahead (l : List Cp) (fs : List Form) : getF cs_ahead "ahead" (chainO l fs) = some (.int (sumA fs), false) := rfl
@[simp] theorem cfld_reach (l : List Cp) (fs : List Form) : getF cs_reach "reach" (chainO l fs) = some (.int ((sumB fs : Int) + (sumA fs : Int)), false) := rfl
@[simp] theorem cfld_form (l : List Cp) (fs : List Form) : getF cs_form "form" (chainO l fs) = some (.tup [.str l, .tup (fs.map Form.d)], false) := rfl
@[simp] theorem cfld_start (l : List Cp) (fs : List Form) : getF cs_start "start" (chainO l fs) = some (.tup (List.replicate fs.length (.str [])), false) := rfl
@[simp] theorem mt_pcall (f : Form) : cAt tab_CALL_2 f.o = some ⟨[], ms_Pass___call__, m_Pass___call__⟩ := rfl
@[simp] theorem isO' (f : Form) : isObjD (some f.o) = true := rfl
@[simp] theorem isOc (l : List Cp) (fs : List Form) : isObjD (some (chainO l fs)) = true := rfl
theorem chain_call_ok (l : List Cp) (fs : List Form) (g : GoodC l fs) (z : List Cp) (hz : z.length ≤ 5000) (ho : over l z = true) : m_Chain___call__ [chainO l fs, .str z] = .ok (.str (outs fs z)) false [] := by
  refine eqM (wp_body ?_)
  simp [sem_Chain___call__, check_row_ok l z hz ho]
  refine wp_forL (fun ds ρ => ∃ (rs : List Form) (y : List Cp), ds = rs.map Form.o ∧ ρ = [some (chainO l fs, .sh), some (.str y, .sh), none] ∧ (∀ r ∈ rs, r ∈ fs) ∧ outs fs z = outs rs y ∧ y.length = z.length ∧ over l y = true) _ _ ⟨fs, z, rfl, rfl, fun _ h => h, rfl, rfl, ho⟩ ?_ ?_
  · rintro d ds ρ ⟨rs, y, e1, e2, h1, h2, h3, h4⟩
    subst e2
    cases rs with
    | nil => cases e1
    | cons r rs =>
      cases e1
      obtain ⟨gr, hl⟩ := g.gd r (h1 r (by simp))
      subst hl
      simp [toAv, call_ok r gr y (by omega) h4]
      exact at_ ⟨rs, out1 r y, rfl, rfl, fun x hx => h1 x (by simp [hx]), h2, by rw [out1_len, h3], out1_over r gr y h4⟩
  · rintro ρ ⟨rs, y, e1, e2, h1, h2, h3, h4⟩
    subst e2
    have : rs = [] := by simpa using e1.symm
    subst this
    simp
    exact okE (by rw [h2]; rfl)
/-! ## rings -/
def charR (z : List Cp) (s : Int) : Cp := z.getD (s % (z.length : Int)).toNat 0
def ringW (f : Form) (z : List Cp) (p : Nat) : List Cp := (List.range f.wide).map fun i : Nat => charR z ((p : Int) - f.back + i)
def ring1 (f : Form) (z : List Cp) : List Cp := (List.range z.length).map fun p => give f (ringW f z p)
theorem ring1_len (f : Form) (z : List Cp) : (ring1 f z).length = z.length := by simp [ring1]
def rings (fs : List Form) (z : List Cp) : List Cp := fs.foldl (fun z f => ring1 f z) z
theorem rings_len (fs : List Form) (z : List Cp) : (rings fs z).length = z.length := by
  unfold rings
  induction fs generalizing z with
  | nil => rfl
  | cons f fs ih => rw [List.foldl_cons, ih, ring1_len]
theorem charR_mem {z : List Cp} {s : Int} (h0 : z ≠ []) : charR z s ∈ z := by
  have hp : 0 < z.length := List.length_pos_iff.mpr h0
  have h1 := Int.emod_nonneg s (show (z.length : Int) ≠ 0 by omega)
  have h2 := Int.emod_lt_of_pos s (show (0 : Int) < z.length by omega)
  have hk : (s % (z.length : Int)).toNat < z.length := by omega
  unfold charR
  simp only [List.getD_eq_getElem?_getD, List.getElem?_eq_getElem hk, Option.getD_some]
  exact List.getElem_mem hk
theorem ring1_over (f : Form) (g : Good f) (z : List Cp) (h : over f.letters z = true) : over f.letters (ring1 f z) = true := by
  rw [over_iff] at h ⊢
  intro c hc
  obtain ⟨p, hp, rfl⟩ := List.mem_map.mp hc
  have hp' : p < z.length := by simpa using hp
  have h0 : z ≠ [] := by intro e; subst e; simp at hp'
  refine give_mem f g _ (by simp [ringW]) fun c hc => ?_
  obtain ⟨i, _, rfl⟩ := List.mem_map.mp hc
  exact h _ (charR_mem h0)
theorem rep_get {α : Type} (z : List α) : ∀ (m k : Nat) (h : k < m * z.length), (List.replicate m z).flatten[k]? = z[k % z.length]?
  | 0, k, h => by simp at h
  | m + 1, k, h => by
    rw [List.replicate_succ, List.flatten_cons]
    by_cases hk : k < z.length
    · rw [List.getElem?_append_left hk, Nat.mod_eq_of_lt hk]
    · have hk' : k - z.length < m * z.length := by rw [Nat.succ_mul] at h; omega
      rw [List.getElem?_append_right (by omega), rep_get z m (k - z.length) hk', Nat.mod_eq_sub_mod (a := k) (b := z.length) (by omega)]
theorem rep_len {α : Type} (z : List α) (m : Nat) : (List.replicate m z).flatten.length = m * z.length := by
  induction m with
  | zero => simp
  | succ m ih => rw [List.replicate_succ, List.flatten_cons, List.length_append, ih, Nat.succ_mul]; omega
theorem check_ring_ok (l z : List Cp) (hz : z.length ≤ 5000) (h : over l z = true) (h0 : z ≠ []) : m_check_ring [.str l, .str z] = .ok .non false [] := by
  refine eqM (wp_body ?_)
  simp [sem_check_ring, is_over_ok l z hz, h, h0]
  exact okM
theorem ring1_along (f : Form) (z : List Cp) (hb : f.back ≤ 2) (ha : f.ahead ≤ 2) (h0 : z ≠ []) : along f (((repS z 5).drop (2 * z.length - f.back)).take (z.length + f.ahead + f.back)) = ring1 f z := by
  have hpos : 0 < z.length := List.length_pos_iff.mpr h0
  have hrl : (repS z 5).length = 5 * z.length := rep_len z 5
  have hyl : (((repS z 5).drop (2 * z.length - f.back)).take (z.length + f.ahead + f.back)).length = z.length + f.ahead + f.back := by
    rw [List.length_take, List.length_drop, hrl]
    omega
  unfold along ring1
  rw [hyl, show z.length + f.ahead + f.back + 1 - f.wide = z.length by unfold Form.wide; omega]
  apply List.map_congr_left
  intro p hp
  have hp' : p < z.length := by simpa using hp
  congr 1
  apply List.ext_getElem?
  intro i
  unfold ringW
  by_cases hi : i < f.wide
  · have hi2 : i < f.back + 1 + f.ahead := hi
    rw [List.getElem?_take_of_lt hi, List.getElem?_drop, List.getElem?_take_of_lt (by omega), List.getElem?_drop, List.getElem?_map, List.getElem?_range hi]
    show (List.replicate (5 : Int).toNat z).flatten[2 * z.length - f.back + (p + i)]? = some (charR z ((p : Int) - f.back + i))
    rw [show (5 : Int).toNat = 5 from rfl, rep_get z 5 _ (by omega)]
    have hm : ((p : Int) - f.back + i) % (z.length : Int) = (((2 * z.length - f.back + (p + i)) % z.length : Nat) : Int) := by
      rw [Int.natCast_emod, show ((2 * z.length - f.back + (p + i) : Nat) : Int) = ((p : Int) - f.back + i) + (z.length : Int) * 2 by omega, Int.add_mul_emod_self_left]
    have hlt : (2 * z.length - f.back + (p + i)) % z.length < z.length := Nat.mod_lt _ hpos
    unfold charR
    rw [hm, Int.toNat_natCast]
    simp [hlt]
  · rw [List.getElem?_eq_none (by rw [List.length_take]; omega), List.getElem?_eq_none (by simp; omega)]
theorem ring_ok (f : Form) (g : Good f) (z : List Cp) (hz : z.length ≤ 3000) (ho : over f.letters z = true) (h0 : z ≠ []) : m_Pass_ring [f.o, .str z] = .ok (.str (ring1 f z)) false [] := by
  have hb := g.bk
  have ha := g.ah
  have hpos : 0 < z.length := List.length_pos_iff.mpr h0
  have hs : z.length ≤ PySem.sizeLine := by rw [size16]; omega
  have m1 : gMul (.int 2) (.int 2) = some (.int 4, false) := rfl
  have hrl : (repS z 5).length = 5 * z.length := rep_len z 5
  have m2 : gMul (.str z) (.int 5) = some (.str (repS z 5), false) := by
    simp only [gMul]
    rw [if_pos ⟨by decide, by omega, by rw [size16]; show z.length * 5 ≤ _; omega⟩]
  have m3 : gMul (.int 2) (.int (z.length : Int)) = some (.int (2 * (z.length : Int)), false) := gMul_i (.inl (by decide))
  have hcut : cutD (repS z 5) (some (2 * (z.length : Int) - f.back)) (some (2 * (z.length : Int) + z.length + f.ahead)) = ((repS z 5).drop (2 * z.length - f.back)).take (z.length + f.ahead + f.back) := by
    by_cases hbl : f.back ≤ 2 * z.length
    · have e1 : (2 * (z.length : Int) - f.back) = ((2 * z.length - f.back : Nat) : Int) := by omega
      have e2 : (2 * (z.length : Int) + z.length + f.ahead) = ((2 * z.length + z.length + f.ahead : Nat) : Int) := by omega
      unfold cutD
      rw [e1, e2, HT.sIx_nat, HT.sIx_nat, hrl, Nat.min_eq_left (by omega), Nat.min_eq_left (by omega)]
      congr 1
      omega
    · omega
  have hs2 : (repS z 5).length ≤ PySem.sizeLine := by rw [hrl, size16]; omega
  have hyl : (((repS z 5).drop (2 * z.length - f.back)).take (z.length + f.ahead + f.back)).length = z.length + f.ahead + f.back := by
    rw [List.length_take, List.length_drop, hrl]
    omega
  have hal := ring1_along f z hb ha h0
  refine eqM (wp_body ?_)
  simp [sem_Pass_ring, check_ring_ok f.letters z (by omega) ho h0, m1, m2, m3, gLen_s hs, toAv, gSl, hs2, hcut, along_ok f g _ (show (((repS z 5).drop (2 * z.length - f.back)).take (z.length + f.ahead + f.back)).length ≤ 20000 by omega), hal]
  exact okM
@[simp] theorem mt_ring (f : Form) : mAt tab_ring_2 "ring" f.o = some ⟨[], ms_Pass_ring, m_Pass_ring⟩ := rfl
theorem chain_ring_ok (l : List Cp) (fs : List Form) (g : GoodC l fs) (z : List Cp) (hz : z.length ≤ 3000) (ho : over l z = true) (h0 : z ≠ []) : m_Chain_ring [chainO l fs, .str z] = .ok (.str (rings fs z)) false [] := by
  refine eqM (wp_body ?_)
  simp [sem_Chain_ring, check_ring_ok l z (by omega) ho h0]
  refine wp_forL (fun ds ρ => ∃ (rs : List Form) (y : List Cp), ds = rs.map Form.o ∧ ρ = [some (chainO l fs, .sh), some (.str y, .sh), none] ∧ (∀ r ∈ rs, r ∈ fs) ∧ rings fs z = rings rs y ∧ y.length = z.length ∧ over l y = true) _ _ ⟨fs, z, rfl, rfl, fun _ h => h, rfl, rfl, ho⟩ ?_ ?_
  · rintro d ds ρ ⟨rs, y, e1, e2, h1, h2, h3, h4⟩
    subst e2
    cases rs with
    | nil => cases e1
    | cons r rs =>
      cases e1
      obtain ⟨gr, hl⟩ := g.gd r (h1 r (by simp))
      subst hl
      have hy0 : y ≠ [] := by intro e; subst e; exact h0 (List.eq_nil_of_length_eq_zero h3.symm)
      simp [toAv, ring_ok r gr y (by omega) h4 hy0]
      exact at_ ⟨rs, ring1 r y, rfl, rfl, fun x hx => h1 x (by simp [hx]), h2, by rw [ring1_len, h3], ring1_over r gr y h4⟩
  · rintro ρ ⟨rs, y, e1, e2, h1, h2, h3, h4⟩
    subst e2
    have : rs = [] := by simpa using e1.symm
    subst this
    simp
    exact okE (by rw [h2]; rfl)
/-! ## what is near -/
theorem out1_get (f : Form) (z : List Cp) (p : Nat) : (out1 f z)[p]? = if p < z.length then some (give f (win f z p)) else none := by
  rw [out1_eq, List.getElem?_map]
  split
  · rename_i h; rw [List.getElem?_range h]; rfl
  · rename_i h; rw [List.getElem?_eq_none (by simpa using h)]; rfl
theorem ring1_get (f : Form) (z : List Cp) (p : Nat) : (ring1 f z)[p]? = if p < z.length then some (give f (ringW f z p)) else none := by
  rw [ring1, List.getElem?_map]
  split
  · rename_i h; rw [List.getElem?_range h]; rfl
  · rename_i h; rw [List.getElem?_eq_none (by simpa using h)]; rfl
theorem win_congr {f : Form} {z1 z2 : List Cp} {p1 p2 : Nat} (h : ∀ i : Nat, i < f.wide → charAt f z1 ((p1 : Int) - f.back + i) = charAt f z2 ((p2 : Int) - f.back + i)) : win f z1 p1 = win f z2 p2 := by
  unfold win
  apply List.map_congr_left
  intro i hi
  exact h i (by simpa using hi)
theorem getD_of {z1 z2 : List Cp} {i j : Nat} (h : z1[i]? = z2[j]?) : z1.getD i 0 = z2.getD j 0 := by
  simp only [List.getD_eq_getElem?_getD, h]
theorem headD_get (z : List Cp) : z.headD 0 = z.getD 0 0 := by cases z <;> rfl
theorem lastD_get (z : List Cp) : z.getLastD 0 = z.getD (z.length - 1) 0 := by
  rw [List.getLastD_eq_getLast?, List.getLast?_eq_getElem?, List.getD_eq_getElem?_getD]
theorem eL_congr {f : Form} {z1 z2 : List Cp} (h : z1[0]? = z2[0]?) : eL f z1 = eL f z2 := by
  unfold eL
  rw [headD_get, headD_get, getD_of h]
theorem eR_congr {f : Form} {z1 z2 : List Cp} (h : z1[z1.length - 1]? = z2[z2.length - 1]?) : eR f z1 = eR f z2 := by
  unfold eR
  rw [lastD_get, lastD_get, getD_of h]
theorem pre1 (f : Form) (z1 z2 : List Cp) (n : Nat) (h1 : n ≤ z1.length) (h2 : n ≤ z2.length) (h : ∀ q, q < n → z1[q]? = z2[q]?) (q : Nat) (hq : q < n - f.ahead) : (out1 f z1)[q]? = (out1 f z2)[q]? := by
  rw [out1_get, out1_get, if_pos (by omega), if_pos (by omega)]
  congr 2
  apply win_congr
  intro i hi
  unfold Form.wide at hi
  unfold charAt
  by_cases h0 : 0 ≤ (q : Int) - f.back + i
  · rw [if_pos ⟨h0, by omega⟩, if_pos ⟨h0, by omega⟩]
    exact getD_of (h _ (by omega))
  · rw [if_neg (by omega), if_pos (by omega), if_neg (by omega), if_pos (by omega)]
    exact eL_congr (h 0 (by omega))
theorem pre_outs : ∀ (fs : List Form) (z1 z2 : List Cp) (n : Nat), n ≤ z1.length → n ≤ z2.length → (∀ q, q < n → z1[q]? = z2[q]?) → ∀ q, q < n - sumA fs → (outs fs z1)[q]? = (outs fs z2)[q]?
  | [], _, _, _, _, _, h, q, hq => h q (by simpa [sumA] using hq)
  | f :: fs, z1, z2, n, h1, h2, h, q, hq => by
    have e : sumA (f :: fs) = f.ahead + sumA fs := by simp [sumA]
    exact pre_outs fs (out1 f z1) (out1 f z2) (n - f.ahead) (by rw [out1_len]; omega) (by rw [out1_len]; omega) (pre1 f z1 z2 n h1 h2 h) q (by omega)
theorem suf1 (f : Form) (z1 z2 : List Cp) (n : Nat) (h1 : n ≤ z1.length) (h2 : n ≤ z2.length) (h : ∀ q, q < n → z1[z1.length - 1 - q]? = z2[z2.length - 1 - q]?) (q : Nat) (hq : q < n - f.back) : (out1 f z1)[z1.length - 1 - q]? = (out1 f z2)[z2.length - 1 - q]? := by
  rw [out1_get, out1_get, if_pos (by omega), if_pos (by omega)]
  congr 2
  apply win_congr
  intro i hi
  unfold Form.wide at hi
  unfold charAt
  by_cases h0 : ((z1.length - 1 - q : Nat) : Int) - f.back + i < z1.length
  · rw [if_pos ⟨by omega, h0⟩, if_pos ⟨by omega, by omega⟩]
    have hh := h (q + f.back - i) (by omega)
    rw [show z1.length - 1 - (q + f.back - i) = (((z1.length - 1 - q : Nat) : Int) - f.back + i).toNat by omega, show z2.length - 1 - (q + f.back - i) = (((z2.length - 1 - q : Nat) : Int) - f.back + i).toNat by omega] at hh
    exact getD_of hh
  · rw [if_neg (by omega), if_neg (by omega), if_neg (by omega), if_neg (by omega)]
    exact eR_congr (h 0 (by omega))
theorem suf_outs : ∀ (fs : List Form) (z1 z2 : List Cp) (n : Nat), n ≤ z1.length → n ≤ z2.length → (∀ q, q < n → z1[z1.length - 1 - q]? = z2[z2.length - 1 - q]?) → ∀ q, q < n - sumB fs → (outs fs z1)[z1.length - 1 - q]? = (outs fs z2)[z2.length - 1 - q]?
  | [], _, _, _, _, _, h, q, hq => h q (by simpa [sumB] using hq)
  | f :: fs, z1, z2, n, h1, h2, h, q, hq => by
    have e : sumB (f :: fs) = f.back + sumB fs := by simp [sumB]
    have := suf_outs fs (out1 f z1) (out1 f z2) (n - f.back) (by rw [out1_len]; omega) (by rw [out1_len]; omega) (fun q hq => by rw [out1_len, out1_len]; exact suf1 f z1 z2 n h1 h2 h q hq) q (by omega)
    rw [out1_len, out1_len] at this
    exact this
theorem mid1 (f : Form) (y r : List Cp) (lo hi : Nat) (h1 : hi ≤ y.length) (h2 : y.length ≤ r.length) (h : ∀ q, lo ≤ q → q < hi → y[q]? = r[q]?) (q : Nat) (hq1 : lo + f.back ≤ q) (hq2 : q + f.ahead < hi) : (out1 f y)[q]? = (ring1 f r)[q]? := by
  rw [out1_get, ring1_get, if_pos (by omega), if_pos (by omega)]
  congr 2
  unfold win ringW
  apply List.map_congr_left
  intro i hi'
  have hi2 : i < f.back + 1 + f.ahead := by simpa [Form.wide] using hi'
  unfold charAt charR
  rw [if_pos ⟨by omega, by omega⟩, Int.emod_eq_of_lt (by omega) (by omega)]
  exact getD_of (h _ (by omega) (by omega))
theorem mid_outs : ∀ (fs : List Form) (y r : List Cp) (lo hi : Nat), hi ≤ y.length → y.length ≤ r.length → (∀ q, lo ≤ q → q < hi → y[q]? = r[q]?) → ∀ q, lo + sumB fs ≤ q → q + sumA fs < hi → (outs fs y)[q]? = (rings fs r)[q]?
  | [], _, _, _, _, _, _, h, q, hq1, hq2 => h q (by simpa [sumB] using hq1) (by simpa [sumA] using hq2)
  | f :: fs, y, r, lo, hi, h1, h2, h, q, hq1, hq2 => by
    have e : sumA (f :: fs) = f.ahead + sumA fs := by simp [sumA]
    have e2 : sumB (f :: fs) = f.back + sumB fs := by simp [sumB]
    by_cases hh : f.ahead ≤ hi
    · exact mid_outs fs (out1 f y) (ring1 f r) (lo + f.back) (hi - f.ahead) (by rw [out1_len]; omega) (by rw [out1_len, ring1_len]; exact h2) (fun q h3 h4 => mid1 f y r lo hi h1 h2 h q h3 (by omega)) q (by omega) (by omega)
    · omega
theorem ring_const1 (f : Form) (c : Cp) (n : Nat) (hn : 0 < n) : ring1 f (List.replicate n c) = List.replicate n (give f (List.replicate f.wide c)) := by
  apply List.ext_getElem?
  intro p
  rw [ring1_get]
  simp only [List.length_replicate]
  by_cases hp : p < n
  · rw [if_pos hp, List.getElem?_replicate, if_pos hp]
    congr 2
    unfold ringW
    apply List.ext_getElem?
    intro i
    by_cases hi : i < f.wide
    · rw [List.getElem?_map, List.getElem?_range hi, List.getElem?_replicate, if_pos hi]
      have : charR (List.replicate n c) ((p : Int) - f.back + i) ∈ List.replicate n c := charR_mem (by cases n with | zero => omega | succ n => simp [List.replicate_succ])
      exact congrArg some (List.eq_of_mem_replicate this)
    · rw [List.getElem?_eq_none (by simp; omega), List.getElem?_eq_none (by simp; omega)]
  · rw [if_neg hp, List.getElem?_eq_none (by simp; omega)]
theorem ring_const : ∀ (fs : List Form) (c : Cp), ∃ x, ∀ n, 0 < n → rings fs (List.replicate n c) = List.replicate n x
  | [], c => ⟨c, fun _ _ => rfl⟩
  | f :: fs, c => by
    obtain ⟨x, hx⟩ := ring_const fs (give f (List.replicate f.wide c))
    refine ⟨x, fun n hn => ?_⟩
    show rings fs (ring1 f (List.replicate n c)) = _
    rw [ring_const1 f c n hn, hx n hn]
/-! ## sums and powers of chains -/
theorem o_isCh (l : List Cp) (fs : List Form) : gIsC cs_isi "Chain" (chainO l fs) = some (.bl true, false) := rfl
theorem gAdd_t {x y : List D} (h : x.length + y.length ≤ 100000) : gAdd (.tup x) (.tup y) = some (.tup (x ++ y), false) := by
  have h' : x.length + y.length ≤ PySem.sizeLine := by rw [size16]; omega
  simp [gAdd, gI0, gCatS, gCatL, gCatT, h']
theorem is_number0_ok (i : Int) : m_is_number [.int i, .non] = .ok (.bl (decide (0 ≤ i))) false [] := by
  refine eqM (wp_body ?_)
  by_cases h : 0 ≤ i
  · simp [sem_is_number, is_integer_ok, h]
    exact okE (by simp [h])
  · simp [sem_is_number, is_integer_ok, h]
    exact okE (by simp [h])
def rep (t : Nat) (fs : List Form) : List Form := (List.replicate t fs).flatten
/-! ## the law's own rings -/
theorem round_ok (fs : List Form) (g : ∀ f ∈ fs, Good f) (z : List Cp) (hz : z.length ≤ 10000) (h0 : z ≠ []) : m__law_round [.lst (fs.map Form.d), .str z] = .ok (.str (rings fs z)) false [] := by
  refine eqM (wp_body ?_)
  simp [sem__law_round]
  refine wp_forL (fun ds ρ => ∃ (rs : List Form) (y : List Cp), ds = rs.map Form.d ∧ ρ = [some (.lst (fs.map Form.d), .sh), some (.str y, .sh), none, none, none, none, none] ∧ (∀ r ∈ rs, r ∈ fs) ∧ rings fs z = rings rs y ∧ y.length = z.length) _ _ ⟨fs, z, rfl, rfl, fun _ h => h, rfl, rfl⟩ ?_ ?_
  · rintro d ds ρ ⟨rs, y, e1, e2, h1, h2, h3⟩
    subst e2
    cases rs with
    | nil => cases e1
    | cons r rs =>
      cases e1
      have gr := g r (h1 r (by simp))
      have hb := gr.bk
      have ha := gr.ah
      have hy0 : y ≠ [] := by intro e; subst e; exact h0 (List.eq_nil_of_length_eq_zero h3.symm)
      have hpos : 0 < y.length := List.length_pos_iff.mpr hy0
      have hs : y.length ≤ PySem.sizeLine := by rw [size16]; omega
      have hr : rOk (y.length : Int) = true := rOk_small (by omega) (by omega)
      simp [gLen_s hs, hr]
      refine wp_for (fun k ρ => ρ = [some (.lst (fs.map Form.d), .sh), some (.str y, .sh), some (r.d, .sh), some (.str ((List.range k).map fun p => give r (ringW r y p)), .sh), none, none, none]) _ 0 _ rfl ?_ ?_
      · intro p hp ρ e
        subst e
        rw [Nat.zero_add]
        simp at hp
        have hrg := gRgL_ok (i := (p : Int) - r.back) (j := (p : Int) + r.ahead + 1) (by omega) (by omega) (by omega) (by omega)
        have hn : ((p : Int) + r.ahead + 1 - ((p : Int) - r.back)).toNat = r.wide := by unfold Form.wide; omega
        rw [hn] at hrg
        have hw5 : r.wide ≤ 5 := by unfold Form.wide; omega
        have hgv := give_ok r gr (ringW r y p) (by simp [ringW])
        have hcat : gAdd (.str ((List.range p).map fun p => give r (ringW r y p))) (.str [give r (ringW r y p)]) = some (.str ((List.range (p + 1)).map fun p => give r (ringW r y p)), false) := by
          rw [gAdd_str (by rw [size16]; simp; omega), List.range_succ, List.map_append]
          rfl
        generalize (List.range p).map (fun p => give r (ringW r y p)) = S at hcat ⊢
        simp [fd3, fd4, hrg, intsD_eq]
        refine wp_lcM (fun i : Nat => D.int ((p : Int) - r.back + (i : Int))) (fun i => D.str [charR y ((p : Int) - r.back + (i : Int))]) _ (by simp; rw [size16]; omega) ?_ ?_
        · intro i hi
          have hm0 := Int.emod_nonneg ((p : Int) - r.back + (i : Int)) (show (y.length : Int) ≠ 0 by omega)
          have hm1 := Int.emod_lt_of_pos ((p : Int) - r.back + (i : Int)) (show (0 : Int) < y.length by omega)
          have hk : (((p : Int) - r.back + (i : Int)) % (y.length : Int)).toNat < y.length := by omega
          have hix : gIx (.str y) (.int (((p : Int) - r.back + (i : Int)) % (y.length : Int))) = some (.str [charR y ((p : Int) - r.back + (i : Int))], false) := by
            rw [gIx_s hs]
            have := Nu.atI_nat (xs := y) (i := (((p : Int) - r.back + (i : Int)) % (y.length : Int)).toNat)
            rw [Int.toNat_of_nonneg hm0] at this
            rw [this]
            unfold charR
            simp [hk]
          have hpos' : (0 : Int) < y.length := by omega
          simp [gLen_s hs, gMod_int hpos', hix]
          exact ak_ ⟨rfl, rfl⟩
        · have hj := join_ok (ringW r y p) (by simp [ringW]; omega)
          rw [show ((List.range r.wide).map fun i : Nat => D.str [charR y ((p : Int) - r.back + (i : Int))]) = (ringW r y p).map fun c => D.str [c] by simp [ringW]]
          generalize ringW r y p = W at hj hgv hcat ⊢
          simp [hj, hgv, hcat]
          exact at_ rfl
      · intro ρ e
        subst e
        simp only [intsD_len, Nat.zero_add]
        rw [show ((List.range y.length).map fun p => give r (ringW r y p)) = ring1 r y from rfl]
        generalize hR : ring1 r y = R1
        simp
        exact at_ ⟨rs, R1, rfl, rfl, fun x hx => h1 x (by simp [hx]), by rw [h2, ← hR]; rfl, by rw [← hR, ring1_len, h3]⟩
  · rintro ρ ⟨rs, y, e1, e2, h1, h2, h3⟩
    subst e2
    have : rs = [] := by simpa using e1.symm
    subst this
    simp
    exact okE (by rw [h2]; rfl)
/-! ## forms may be shown by repr -/
theorem nd_len : ∀ {p l : List Cp}, p.Nodup → (∀ c ∈ p, c ∈ l) → p.length ≤ l.length
  | [], _, _, _ => Nat.zero_le _
  | c :: p, l, nd, h => by
    obtain ⟨h1, h2⟩ := List.nodup_cons.mp nd
    have hc := h c (by simp)
    have := nd_len (l := l.erase c) h2 fun d hd => (List.mem_erase_of_ne (a := d) (b := c) (fun e => h1 (by rw [← e]; exact hd))).mpr (h d (by simp [hd]))
    rw [List.length_erase_of_mem hc] at this
    have : 0 < l.length := List.length_pos_of_mem hc
    simp only [List.length_cons]
    omega
theorem repB_tup {n : Nat} {ds : List D} (h : ∀ d ∈ ds, repB n d = true) : repB (n + 1) (.tup ds) = true := by
  rw [repB]; exact repsB_all h
theorem repB_lst {n : Nat} {ds : List D} (h : ∀ d ∈ ds, repB n d = true) : repB (n + 1) (.lst ds) = true := by
  rw [repB]; exact repsB_all h
theorem blk_tup {n b : Nat} {ds : List D} (hn : ds.length ≤ n) (h : ∀ d ∈ ds, blk d ≤ b) : blk (.tup ds) ≤ n * (b + 1) := by
  rw [blk]; exact Nat.le_trans (blks_le h) (Nat.mul_le_mul_right _ hn)
theorem blk_lst {n b : Nat} {ds : List D} (hn : ds.length ≤ n) (h : ∀ d ∈ ds, blk d ≤ b) : blk (.lst ds) ≤ n * (b + 1) := by
  rw [blk]; exact Nat.le_trans (blks_le h) (Nat.mul_le_mul_right _ hn)
theorem edge_rep (n : Nat) (e : Option Cp) : repB n (edgeD e) = true := by cases e <;> simp [edgeD, repB]
theorem edge_blk (e : Option Cp) : blk (edgeD e) ≤ 1 := by cases e <;> simp [edgeD, blk]
theorem rule_rep (r : Rule) : repB 2 (ruleD r) = true := by
  refine repB_tup fun d hd => ?_
  simp only [List.mem_cons, List.not_mem_nil, or_false] at hd
  rcases hd with rfl | rfl
  · refine repB_tup fun p hp => ?_
    obtain ⟨y, _, rfl⟩ := List.mem_map.mp hp
    simp [repB]
  · simp [repB]
theorem form_repB (f : Form) (g : Good f) : repB 4 f.d = true := by
  have hb := g.bk
  have ha := g.ah
  refine repB_tup fun d hd => ?_
  simp only [List.mem_cons, List.not_mem_nil, or_false] at hd
  rcases hd with rfl | rfl | rfl | rfl | rfl
  · simp [repB]
  · refine repB_tup fun r hr => ?_
    obtain ⟨x, _, rfl⟩ := List.mem_map.mp hr
    exact rule_rep x
  · exact edge_rep _ _
  · simp only [repB]; exact decide_eq_true (by have : (f.back : Int).natAbs = f.back := rfl; omega)
  · simp only [repB]; exact decide_eq_true (by have : (f.ahead : Int).natAbs = f.ahead := rfl; omega)
theorem rule_blk {l : List Cp} {n : Nat} {r : Rule} (hn : n ≤ 5) (al : Alph l) (h : RuleOk l n r) : blk (ruleD r) ≤ 100 := by
  have l4 := al.l4
  refine Nat.le_trans (blk_tup (n := 2) (b := 25) (by simp) fun d hd => ?_) (by decide)
  simp only [List.mem_cons, List.not_mem_nil, or_false] at hd
  rcases hd with rfl | rfl
  · refine Nat.le_trans (blk_tup (n := 5) (b := 4) (by rw [List.length_map, h.len]; exact hn) fun p hp => ?_) (by decide)
    obtain ⟨y, hy, rfl⟩ := List.mem_map.mp hp
    have := h.pt y hy
    rw [blk]
    exact Nat.le_trans (nd_len this.1 this.2) l4
  · simp [blk]
theorem form_blk (f : Form) (g : Good f) : blk f.d ≤ 20000 := by
  have hb := g.bk
  have ha := g.ah
  have l4 := g.al.l4
  refine Nat.le_trans (blk_tup (n := 5) (b := 2000) (by simp) fun d hd => ?_) (by decide)
  simp only [List.mem_cons, List.not_mem_nil, or_false] at hd
  rcases hd with rfl | rfl | rfl | rfl | rfl
  · rw [blk]; omega
  · refine Nat.le_trans (blk_tup (n := 12) (b := 100) (by rw [List.length_map]; exact g.rl) fun r hr => ?_) (by decide)
    obtain ⟨x, hx, rfl⟩ := List.mem_map.mp hr
    exact rule_blk (by unfold Form.wide; omega) g.al (g.ru x hx)
  · exact Nat.le_trans (edge_blk _) (by decide)
  · simp [blk]
  · simp [blk]
theorem form_rep (f : Form) (g : Good f) : Rep f.d := ⟨⟨4, by decide, form_repB f g⟩, Nat.le_trans (form_blk f g) (by decide)⟩
@[simp] theorem repr_form {f : Form} (g : Good f) : gRepr [f.d] = some (.str (rTx f.d), false) := gRepr_ok (form_rep f g)
theorem gEq_bl {n m : Nat} {a b : D} (ha : dataB n a = true) (hb : dataB m b = true) (hn : n ≤ 60 := by decide) (hm : m ≤ 60 := by decide) : ∃ v, gEq a b = some (.bl v, false) := by
  obtain ⟨p, e, _⟩ := pyOf_data ha hn
  obtain ⟨q, e', _⟩ := pyOf_data hb hm
  exact ⟨PyData.eqv p q, by simp [gEq, e, e']⟩
theorem repB_data : ∀ (n : Nat) (d : D), repB n d = true → dataB n d = true := by
  have H : ∀ n, (∀ d, repB n d = true → dataB n d = true) ∧ (∀ ds, repsB n ds = true → datasB n ds = true) := by
    intro n
    induction n with
    | zero =>
      have h1 : ∀ d, repB 0 d = true → dataB 0 d = true := fun d h => by cases d <;> simp_all [repB, dataB]
      refine ⟨h1, fun ds => ?_⟩
      induction ds with
      | nil => simp [datasB]
      | cons d ds ih => simp only [repsB, datasB, Bool.and_eq_true]; exact fun ⟨a, b⟩ => ⟨h1 d a, ih b⟩
    | succ n ih =>
      have h1 : ∀ d, repB (n + 1) d = true → dataB (n + 1) d = true := fun d h => by
        cases d with
        | tup ds => rw [repB] at h; rw [dataB]; exact ih.2 ds h
        | lst ds => rw [repB] at h; rw [dataB]; exact ih.2 ds h
        | _ => simp_all [repB, dataB]
      refine ⟨h1, fun ds => ?_⟩
      induction ds with
      | nil => simp [datasB]
      | cons d ds ih => simp only [repsB, datasB, Bool.and_eq_true]; exact fun ⟨a, b⟩ => ⟨h1 d a, ih b⟩
  exact fun n => (H n).1
theorem form_data4 (f : Form) (g : Good f) : dataB 4 f.d = true := repB_data 4 _ (form_repB f g)
/-! ## mirrored -/
def mirR (r : Rule) : Rule := (r.1.reverse, r.2)
def mirF (f : Form) : Form := ⟨f.letters, f.rules.map mirR, f.edge, f.ahead, f.back⟩
theorem mirR_mirR (r : Rule) : mirR (mirR r) = r := by simp [mirR]
theorem mirF_mirF (f : Form) : mirF (mirF f) = f := by
  obtain ⟨l, rs, e, b, a⟩ := f
  have h : (mirR ∘ mirR) = id := funext mirR_mirR
  simp [mirF, h]
theorem mir_wide (f : Form) : (mirF f).wide = f.wide := by simp [mirF, Form.wide]; omega
theorem mir_good (f : Form) (g : Good f) : Good (mirF f) := by
  refine ⟨g.al, by simpa [mirF] using g.rl, ?_, g.ed, g.ah, g.bk⟩
  intro r hr
  obtain ⟨q, hq, rfl⟩ := List.mem_map.mp (show r ∈ f.rules.map mirR from hr)
  have o := g.ru q hq
  rw [mir_wide]
  exact ⟨by simpa [mirR] using o.len, o.mr, fun p hp => o.pt p (by simpa [mirR] using hp)⟩
theorem fits_iff (p : List (List Cp)) (w : List Cp) : fits p w = true ↔ ∀ i, (h : i < p.length) → fit1 w (p[i], i) = true := by
  unfold fits
  simp only [List.all_eq_true, List.mem_map, id]
  constructor
  · intro h i hi
    refine h _ ⟨(p[i], i), ?_, rfl⟩
    rw [List.mem_zipIdx_iff_getElem?]
    simp
  · rintro h x ⟨⟨q, i⟩, hq, rfl⟩
    rw [List.mem_zipIdx_iff_getElem?] at hq
    obtain ⟨hi, e⟩ := List.getElem?_eq_some_iff.mp hq
    have := h i hi
    rw [e] at this
    exact this
theorem fit1_rev (p : List (List Cp)) (w : List Cp) (h : p.length = w.length) (i : Nat) (hi : i < p.length) : fit1 w.reverse (p.reverse[i]'(by simpa using hi), i) = fit1 w (p[p.length - 1 - i]'(by omega), p.length - 1 - i) := by
  unfold fit1
  simp only [List.getElem_reverse]
  rw [List.getElem?_reverse (by omega), ← h]
theorem fits_rev (p : List (List Cp)) (w : List Cp) (h : p.length = w.length) : fits p.reverse w.reverse = fits p w := by
  rw [Bool.eq_iff_iff, fits_iff, fits_iff]
  constructor
  · intro H i hi
    have := H (p.length - 1 - i) (by simp; omega)
    rw [fit1_rev p w h _ (by omega)] at this
    have e : p.length - 1 - (p.length - 1 - i) = i := by omega
    simpa only [e] using this
  · intro H i hi
    have hi' : i < p.length := by simpa using hi
    rw [fit1_rev p w h i hi']
    exact H _ _
theorem find_mir (w : List Cp) : ∀ rs : List Rule, (∀ r ∈ rs, r.1.length = w.length) → (rs.map mirR).find? (fun r => fits r.1 w.reverse) = (rs.find? fun r => fits r.1 w).map mirR
  | [], _ => rfl
  | r :: rs, h => by
    have e : fits (mirR r).1 w.reverse = fits r.1 w := fits_rev _ _ (h r (by simp))
    have ih := find_mir w rs fun q hq => h q (by simp [hq])
    simp only [List.map_cons, List.find?_cons, e, ih]
    cases fits r.1 w <;> rfl
theorem give_mir (f : Form) (g : Good f) (w : List Cp) (hw : w.length = f.wide) : give (mirF f) w.reverse = give f w := by
  unfold give
  rw [show (mirF f).rules = f.rules.map mirR from rfl, find_mir w f.rules fun r hr => (g.ru r hr).len.trans hw.symm]
  cases f.rules.find? fun r => fits r.1 w with
  | some r => rfl
  | none =>
    show w.reverse.getD f.ahead 0 = w.getD f.back 0
    unfold Form.wide at hw
    rw [List.getD_eq_getElem?_getD, List.getD_eq_getElem?_getD, List.getElem?_reverse (by omega)]
    congr 2
    omega
theorem eL_mir (f : Form) (z : List Cp) : eL (mirF f) z.reverse = eR f z := by
  unfold eL eR
  rw [show (mirF f).edge = f.edge from rfl, headD_get, lastD_get]
  congr 1
  cases z with
  | nil => rfl
  | cons c r => exact getD_of (by rw [List.getElem?_reverse (by simp)]; simp)
theorem eR_mir (f : Form) (z : List Cp) : eR (mirF f) z.reverse = eL f z := by
  have := eL_mir (mirF f) z.reverse
  rw [mirF_mirF, List.reverse_reverse] at this
  exact this.symm
theorem charAt_mir (f : Form) (z : List Cp) (s : Int) : charAt (mirF f) z.reverse s = charAt f z ((z.length : Int) - 1 - s) := by
  unfold charAt
  simp only [List.length_reverse, eL_mir, eR_mir]
  by_cases h1 : 0 ≤ s ∧ s < z.length
  · rw [if_pos h1, if_pos (by omega)]
    refine getD_of ?_
    rw [List.getElem?_reverse (by omega)]
    congr 1
    omega
  · rw [if_neg h1]
    by_cases h2 : s < 0
    · rw [if_pos h2, if_neg (by omega), if_neg (by omega)]
    · rw [if_neg h2, if_neg (by omega), if_pos (by omega)]
theorem map_range_rev {α : Type} (n : Nat) (f g : Nat → α) (h : ∀ i, i < n → f i = g (n - 1 - i)) : (List.range n).map f = ((List.range n).map g).reverse := by
  refine List.ext_getElem? fun i => ?_
  by_cases hi : i < n
  · rw [List.getElem?_reverse (by simpa using hi)]
    simp only [List.length_map, List.length_range, List.getElem?_map]
    rw [List.getElem?_range hi, List.getElem?_range (by omega)]
    exact congrArg some (h i hi)
  · rw [List.getElem?_eq_none (by simpa using hi), List.getElem?_eq_none (by simpa using hi)]
theorem win_mir (f : Form) (z : List Cp) (p : Nat) (hp : p < z.length) : win (mirF f) z.reverse p = (win f z (z.length - 1 - p)).reverse := by
  unfold win
  rw [mir_wide]
  refine map_range_rev _ _ _ fun i hi => ?_
  rw [charAt_mir]
  congr 1
  have hb : (mirF f).back = f.ahead := rfl
  rw [hb]
  unfold Form.wide at hi ⊢
  omega
theorem out1_mir (f : Form) (g : Good f) (z : List Cp) : out1 (mirF f) z.reverse = (out1 f z).reverse := by
  rw [out1_eq, out1_eq, List.length_reverse]
  refine map_range_rev _ _ _ fun i hi => ?_
  rw [win_mir f z i hi, give_mir f g _ (win_len _ _ _)]
theorem outs_mir : ∀ (fs : List Form) (g : ∀ f ∈ fs, Good f) (z : List Cp), outs (fs.map mirF) z.reverse = (outs fs z).reverse
  | [], _, _ => rfl
  | f :: fs, g, z => by
    show outs (fs.map mirF) (out1 (mirF f) z.reverse) = (outs fs (out1 f z)).reverse
    rw [out1_mir f (g f (by simp)), outs_mir fs (fun q hq => g q (by simp [hq]))]
theorem charR_mir (z : List Cp) (h0 : z ≠ []) (s : Int) : charR z.reverse s = charR z ((z.length : Int) - 1 - s) := by
  unfold charR
  rw [List.length_reverse]
  have hl : 0 < z.length := List.length_pos_iff.mpr h0
  have hn : (0 : Int) < (z.length : Int) := by omega
  obtain ⟨n, hz⟩ : ∃ n : Int, (z.length : Int) = n := ⟨_, rfl⟩
  rw [hz] at hn ⊢
  have a1 := Int.emod_nonneg s (show n ≠ 0 by omega)
  have a2 := Int.emod_lt_of_pos s hn
  have e : (n - 1 - s) % n = n - 1 - s % n := by
    have q : n - 1 - s = (n - 1 - s % n) + n * (- (s / n)) := by
      have := Int.emod_add_mul_ediv s n
      have r : n * (-(s / n)) = - (n * (s / n)) := by rw [Int.mul_neg]
      omega
    rw [q, Int.add_mul_emod_self_left, Int.emod_eq_of_lt (by omega) (by omega)]
  rw [e]
  refine getD_of ?_
  rw [List.getElem?_reverse (by omega)]
  congr 1
  omega
theorem ringW_mir (f : Form) (z : List Cp) (p : Nat) (hp : p < z.length) : ringW (mirF f) z.reverse p = (ringW f z (z.length - 1 - p)).reverse := by
  unfold ringW
  rw [mir_wide]
  refine map_range_rev _ _ _ fun i hi => ?_
  rw [charR_mir z (by intro e; rw [e] at hp; simp at hp)]
  congr 1
  have hb : (mirF f).back = f.ahead := rfl
  rw [hb]
  unfold Form.wide at hi ⊢
  omega
theorem ringW_len (f : Form) (z : List Cp) (p : Nat) : (ringW f z p).length = f.wide := by simp [ringW]
theorem ring1_mir (f : Form) (g : Good f) (z : List Cp) : ring1 (mirF f) z.reverse = (ring1 f z).reverse := by
  unfold ring1
  rw [List.length_reverse]
  refine map_range_rev _ _ _ fun i hi => ?_
  rw [ringW_mir f z i hi, give_mir f g _ (ringW_len _ _ _)]
theorem rings_mir : ∀ (fs : List Form) (g : ∀ f ∈ fs, Good f) (z : List Cp), rings (fs.map mirF) z.reverse = (rings fs z).reverse
  | [], _, _ => rfl
  | f :: fs, g, z => by
    show rings (fs.map mirF) (ring1 (mirF f) z.reverse) = (rings fs (ring1 f z)).reverse
    rw [ring1_mir f (g f (by simp)), rings_mir fs (fun q hq => g q (by simp [hq]))]
theorem sumB_mir (fs : List Form) : sumB (fs.map mirF) = sumA fs := by simp [sumB, sumA, Function.comp_def, mirF]
theorem sumA_mir (fs : List Form) : sumA (fs.map mirF) = sumB fs := by simp [sumB, sumA, Function.comp_def, mirF]
theorem mir_goodC {l : List Cp} {fs : List Form} (g : GoodC l fs) : GoodC l (fs.map mirF) := by
  refine ⟨g.al, ?_, by simpa using g.ln, by rw [sumB_mir, sumA_mir, Nat.add_comm]; exact g.wd⟩
  intro f hf
  obtain ⟨q, hq, rfl⟩ := List.mem_map.mp hf
  exact ⟨mir_good q (g.gd q hq).1, (g.gd q hq).2⟩
/-! ## passes sign by sign: what is remembered, what is told -/
def spanF (f : Form) : Nat := f.back + f.ahead
def mem (f : Form) (x : List Cp) : List Cp := x.drop (x.length - spanF f)
def tells (f : Form) (x : List Cp) : List Cp := (out1 f x).take (x.length - f.ahead)
def one (f : Form) (x : List Cp) (c : Cp) : List Cp := if f.ahead ≤ x.length then [give f (win f (x ++ [c]) (x.length - f.ahead))] else []
theorem tells_len (f : Form) (x : List Cp) : (tells f x).length = x.length - f.ahead := by
  unfold tells
  rw [List.length_take, out1_len]
  omega
theorem mem_len (f : Form) (x : List Cp) : (mem f x).length = min x.length (spanF f) := by
  unfold mem
  rw [List.length_drop]
  omega
theorem tells_get (f : Form) (x y : List Cp) (q : Nat) (hq : q < x.length - f.ahead) : (tells f x)[q]? = (out1 f (x ++ y))[q]? := by
  unfold tells
  rw [List.getElem?_take_of_lt hq]
  exact pre1 f x (x ++ y) x.length (Nat.le_refl _) (by simp) (fun q hq => by rw [List.getElem?_append_left hq]) q hq
/-- what is told is a beginning of every outcome that is still possible -/
theorem tells_pre (f : Form) (x y : List Cp) : (out1 f (x ++ y)).take (x.length - f.ahead) = tells f x := by
  refine List.ext_getElem? fun q => ?_
  by_cases hq : q < x.length - f.ahead
  · rw [List.getElem?_take_of_lt hq, tells_get f x y q hq]
  · rw [List.getElem?_eq_none (by rw [List.length_take, out1_len]; simp; omega), List.getElem?_eq_none (by rw [tells_len]; omega)]
theorem tells_snoc (f : Form) (x : List Cp) (c : Cp) : tells f (x ++ [c]) = tells f x ++ one f x c := by
  refine List.ext_getElem? fun q => ?_
  by_cases hq : q < x.length - f.ahead
  · rw [List.getElem?_append_left (by rw [tells_len]; exact hq), tells_get f x [c] q hq]
    unfold tells
    rw [List.getElem?_take_of_lt (by simp; omega)]
  · rw [List.getElem?_append_right (by rw [tells_len]; omega), tells_len]
    unfold one
    by_cases ha : f.ahead ≤ x.length
    · rw [if_pos ha]
      by_cases hq2 : q = x.length - f.ahead
      · subst hq2
        rw [Nat.sub_self]
        unfold tells
        rw [List.getElem?_take_of_lt (by simp; omega), out1_get, if_pos (by simp; omega)]
        rfl
      · rw [List.getElem?_eq_none (by rw [tells_len]; simp; omega), List.getElem?_eq_none (by simp; omega)]
    · rw [if_neg ha, List.getElem?_eq_none (by rw [tells_len]; simp; omega)]
      rfl
theorem one_len (f : Form) (x : List Cp) (c : Cp) : (one f x c).length ≤ 1 := by unfold one; split <;> simp
/-- the window that a remembered row and the next sign make -/
theorem mem_win (f : Form) (x : List Cp) (c : Cp) (ha : f.ahead ≤ x.length) :
    List.replicate (spanF f - (mem f x).length) (f.edge.getD ((mem f x ++ [c]).headD 0)) ++ (mem f x ++ [c]) = win f (x ++ [c]) (x.length - f.ahead) := by
  have hm := mem_len f x
  refine List.ext_getElem? fun i => ?_
  by_cases hi : i < f.wide
  · have hw : (win f (x ++ [c]) (x.length - f.ahead))[i]? = some (charAt f (x ++ [c]) (((x.length - f.ahead : Nat) : Int) - f.back + i)) := by
      unfold win
      rw [List.getElem?_map, List.getElem?_range hi]
      rfl
    rw [hw]
    unfold Form.wide at hi
    unfold spanF at hm ⊢
    by_cases hx : f.back + f.ahead ≤ x.length
    · have e0 : f.back + f.ahead - (mem f x).length = 0 := by omega
      rw [e0]
      simp only [List.replicate_zero, List.nil_append]
      have em : (mem f x ++ [c])[i]? = (x ++ [c])[x.length - (f.back + f.ahead) + i]? := by
        have : mem f x ++ [c] = (x ++ [c]).drop (x.length - (f.back + f.ahead)) := by
          unfold mem spanF
          rw [List.drop_append_of_le_length (by omega)]
        rw [this, List.getElem?_drop]
      rw [em]
      have hlt : x.length - (f.back + f.ahead) + i < (x ++ [c]).length := by simp; omega
      have c1 : (0 : Int) ≤ ((x.length - f.ahead : Nat) : Int) - f.back + i ∧ ((x.length - f.ahead : Nat) : Int) - f.back + i < ((x ++ [c]).length : Nat) := by simp; omega
      unfold charAt
      rw [if_pos c1]
      have c3 : (((x.length - f.ahead : Nat) : Int) - f.back + i).toNat = x.length - (f.back + f.ahead) + i := by omega
      rw [c3, List.getElem?_eq_getElem hlt, List.getD_eq_getElem?_getD, List.getElem?_eq_getElem hlt]
      rfl
    · have ex : mem f x = x := by
        unfold mem spanF
        rw [Nat.sub_eq_zero_of_le (by omega), List.drop_zero]
      rw [ex]
      by_cases h1 : i < f.back + f.ahead - x.length
      · rw [List.getElem?_append_left (by simpa using h1), List.getElem?_replicate, if_pos h1]
        unfold charAt
        rw [if_neg (by omega), if_pos (by omega)]
        rfl
      · rw [List.getElem?_append_right (by simp; omega), List.length_replicate]
        have hlt : i - (f.back + f.ahead - x.length) < (x ++ [c]).length := by simp; omega
        unfold charAt
        rw [if_pos (by simp; omega)]
        have c3 : (((x.length - f.ahead : Nat) : Int) - f.back + i).toNat = i - (f.back + f.ahead - x.length) := by omega
        rw [c3, List.getElem?_eq_getElem hlt, List.getD_eq_getElem?_getD, List.getElem?_eq_getElem hlt]
        rfl
  · rw [List.getElem?_eq_none (by unfold Form.wide at hi; unfold spanF at hm ⊢; simp; omega), List.getElem?_eq_none (by rw [win_len]; omega)]
theorem mem_snoc (f : Form) (x : List Cp) (c : Cp) : (mem f x ++ [c]).drop ((mem f x).length + 1 - spanF f) = mem f (x ++ [c]) := by
  have hm := mem_len f x
  unfold mem at hm ⊢
  rw [← List.drop_append_of_le_length (by omega), List.drop_drop]
  congr 1
  simp at hm ⊢
  omega
theorem along_drop (f : Form) (z : List Cp) (k : Nat) : along f (z.drop k) = (along f z).drop k := by
  unfold along
  rw [List.length_drop]
  refine List.ext_getElem? fun i => ?_
  rw [List.getElem?_drop]
  simp only [List.getElem?_map]
  by_cases h : i < z.length - k + 1 - f.wide
  · by_cases hk : k ≤ z.length
    · rw [List.getElem?_range h, List.getElem?_range (by omega)]
      simp [List.drop_drop]
    · rw [List.getElem?_range h, List.getElem?_eq_none (by simp; unfold Form.wide at h ⊢; omega)]
      unfold Form.wide at h
      omega
  · rw [List.getElem?_eq_none (by simpa using h), List.getElem?_eq_none (by simp; omega)]
    rfl
/-- the rest that a pass tells at the end hangs on what it remembers -/
theorem rest_eq (f : Form) (x : List Cp) : along f ((fill f (mem f x)).drop ((mem f x).length - f.ahead)) = (out1 f x).drop (x.length - f.ahead) := by
  have hm := mem_len f x
  rw [along_drop]
  show (out1 f (mem f x)).drop _ = _
  by_cases hx : x.length ≤ spanF f
  · have : mem f x = x := by unfold mem; rw [Nat.sub_eq_zero_of_le hx, List.drop_zero]
    rw [this]
  · have hml : (mem f x).length = spanF f := by omega
    refine List.ext_getElem? fun i => ?_
    rw [List.getElem?_drop, List.getElem?_drop]
    by_cases hi : i < f.ahead
    · have hs := suf1 f (mem f x) x (spanF f) (by omega) (by omega) (fun q hq => by
        unfold mem
        rw [List.getElem?_drop]
        congr 1
        simp
        omega) (f.ahead - 1 - i) (by unfold spanF; omega)
      have e1 : (mem f x).length - 1 - (f.ahead - 1 - i) = (mem f x).length - f.ahead + i := by unfold spanF at hml; omega
      have e2 : x.length - 1 - (f.ahead - 1 - i) = x.length - f.ahead + i := by unfold spanF at hx; omega
      rw [e1, e2] at hs
      exact hs
    · rw [List.getElem?_eq_none (by rw [out1_len]; unfold spanF at hml; omega), List.getElem?_eq_none (by rw [out1_len]; omega)]
/-! ### chains -/
def mems : List Form → List Cp → List (List Cp)
  | [], _ => []
  | f :: fs, x => mem f x :: mems fs (tells f x)
def tellsC : List Form → List Cp → List Cp
  | [], x => x
  | f :: fs, x => tellsC fs (tells f x)
def news : List Form → List Cp → List Cp → List Cp
  | [], _, y => y
  | f :: fs, x, y => match y with
    | [] => []
    | c :: _ => news fs (tells f x) (one f x c)
theorem mems_len : ∀ (fs : List Form) (x : List Cp), (mems fs x).length = fs.length
  | [], _ => rfl
  | f :: fs, x => by simp [mems, mems_len fs]
theorem news_nil : ∀ (fs : List Form) (x : List Cp), news fs x [] = []
  | [], _ => rfl
  | _ :: _, _ => rfl
theorem tellsC_len : ∀ (fs : List Form) (x : List Cp), (tellsC fs x).length = x.length - sumA fs
  | [], x => by simp [tellsC, sumA]
  | f :: fs, x => by
    rw [tellsC, tellsC_len fs, tells_len]
    simp [sumA]
    omega
theorem tellsC_news : ∀ (fs : List Form) (x y : List Cp), y.length ≤ 1 → tellsC fs (x ++ y) = tellsC fs x ++ news fs x y
  | [], x, y, _ => rfl
  | f :: fs, x, [], _ => by simp [news]
  | f :: fs, x, [c], _ => by
    rw [tellsC, tellsC, tells_snoc, tellsC_news fs _ _ (one_len f x c)]
    rfl
  | _ :: _, _, _ :: _ :: _, h => by simp at h
theorem outs_cons (f : Form) (fs : List Form) (x : List Cp) : outs (f :: fs) x = outs fs (out1 f x) := rfl
theorem pre_outs_take (fs : List Form) (x y : List Cp) : (outs fs (x ++ y)).take (x.length - sumA fs) = (outs fs x).take (x.length - sumA fs) := by
  refine List.ext_getElem? fun q => ?_
  by_cases hq : q < x.length - sumA fs
  · rw [List.getElem?_take_of_lt hq, List.getElem?_take_of_lt hq]
    exact (pre_outs fs x (x ++ y) x.length (Nat.le_refl _) (by simp) (fun q hq => by rw [List.getElem?_append_left hq]) q hq).symm
  · rw [List.getElem?_eq_none (by simp; omega), List.getElem?_eq_none (by simp; omega)]
/-- what a chain has told is a beginning of the outcome -/
theorem tellsC_outs : ∀ (fs : List Form) (x : List Cp), tellsC fs x = (outs fs x).take (x.length - sumA fs)
  | [], x => by simp [tellsC, outs, sumA]
  | f :: fs, x => by
    rw [tellsC, tellsC_outs fs, outs_cons, tells_len]
    have e : out1 f x = tells f x ++ (out1 f x).drop (x.length - f.ahead) := by unfold tells; rw [List.take_append_drop]
    have hs : x.length - sumA (f :: fs) = (tells f x).length - sumA fs := by rw [tells_len]; simp [sumA]; omega
    rw [hs, tells_len]
    conv => rhs; rw [e]
    have := pre_outs_take fs (tells f x) ((out1 f x).drop (x.length - f.ahead))
    rw [tells_len] at this
    exact this.symm
def fillE (e : Option Cp) (z : List Cp) (b a : Nat) : List Cp := if z = [] then [] else List.replicate b (e.getD (z.headD 0)) ++ z ++ List.replicate a (e.getD (z.getLastD 0))
theorem gMul_n (c : Cp) (n : Nat) (h : n ≤ 100) : gMul (.str [c]) (.int (n : Int)) = some (.str (List.replicate n c), false) := by
  simp only [gMul]
  rw [if_pos ⟨by omega, by simp, by rw [size16]; simp; omega⟩, rep_one]
theorem filledE (e : Option Cp) (z : List Cp) (b a : Nat) (hz : z.length ≤ 9000) (hb : b ≤ 100) (ha : a ≤ 100) : m_filled_out [.str z, edgeD e, .int b, .int a] = .ok (.str (fillE e z b a)) false [] := by
  have hs : z.length ≤ PySem.sizeLine := by rw [size16]; omega
  refine eqM (wp_body ?_)
  by_cases h0 : z = []
  · simp [sem_filled_out, h0]
    exact okE (by simp [fillE, h0])
  · have e1 := atI_first z h0
    have e2 := atI_last z h0
    cases e with
    | none =>
      have a1 : gAdd (.str (List.replicate b (z.headD 0))) (.str z) = some (.str (List.replicate b (z.headD 0) ++ z), false) := gAdd_str (by rw [size16]; simp; omega)
      have a2 : gAdd (.str (List.replicate b (z.headD 0) ++ z)) (.str (List.replicate a (z.getLastD 0))) = some (.str (List.replicate b (z.headD 0) ++ z ++ List.replicate a (z.getLastD 0)), false) := gAdd_str (by rw [size16]; simp; omega)
      simp [sem_filled_out, edgeD, h0, gIx_s hs, e1, e2, gMul_n _ _ hb, gMul_n _ _ ha, a1, a2, -List.append_assoc, -List.headD_eq_head?_getD, -List.getLastD_eq_getLast?]
      exact okE (by simp [fillE, h0])
    | some c =>
      have a1 : gAdd (.str (List.replicate b c)) (.str z) = some (.str (List.replicate b c ++ z), false) := gAdd_str (by rw [size16]; simp; omega)
      have a2 : gAdd (.str (List.replicate b c ++ z)) (.str (List.replicate a c)) = some (.str (List.replicate b c ++ z ++ List.replicate a c), false) := gAdd_str (by rw [size16]; simp; omega)
      simp [sem_filled_out, edgeD, h0, gMul_n _ _ hb, gMul_n _ _ ha, a1, a2, -List.append_assoc]
      exact okE (by simp [fillE, h0])
theorem cut_from {α : Type} (xs : List α) (k : Nat) : cutD xs (some (k : Int)) none = xs.drop k := by
  unfold cutD
  rw [HT.sIx_nat, HT.sIx_none, List.take_of_length_le (by simp)]
  by_cases h : k ≤ xs.length
  · rw [Nat.min_eq_left h]
  · rw [Nat.min_eq_right (by omega), List.drop_of_length_le (by omega), List.drop_of_length_le (by omega)]
theorem cut_to {α : Type} (xs : List α) (k : Nat) : cutD xs none (some (k : Int)) = xs.take k := by
  unfold cutD
  rw [HT.sIx_nat, HT.sIx_none, List.drop_zero, Nat.sub_zero]
  by_cases h : k ≤ xs.length
  · rw [Nat.min_eq_left h]
  · rw [Nat.min_eq_right (by omega), List.take_of_length_le (by omega), List.take_of_length_le (by omega)]
theorem maxI (a b : Nat) : (if (0 : Int) < (a : Int) - (b : Int) then (a : Int) - (b : Int) else 0) = ((a - b : Nat) : Int) := by
  split <;> omega
theorem next_ok (f : Form) (g : Good f) (x : List Cp) (c : Cp) : m_next_memory [f.o, .str (mem f x), .str [c]] = .ok (.tup [.str (mem f (x ++ [c])), .str (one f x c)]) false [] := by
  have hb := g.bk
  have ha := g.ah
  have hm := mem_len f x
  have hsp : spanF f ≤ 4 := by unfold spanF; omega
  obtain ⟨w, hw⟩ : ∃ w, w = mem f x := ⟨_, rfl⟩
  rw [← hw] at hm ⊢
  have hwl : w.length ≤ 4 := by omega
  have hs : w.length ≤ PySem.sizeLine := by rw [size16]; omega
  have a1 : gAdd (.str w) (.str [c]) = some (.str (w ++ [c]), false) := gAdd_str (by rw [size16]; simp; omega)
  have hs2 : (w ++ [c]).length ≤ PySem.sizeLine := by rw [size16]; simp; omega
  have k1 : (if (f.back : Int) + f.ahead < (w.length : Int) + 1 then (w.length : Int) + 1 - ((f.back : Int) + f.ahead) else 0) = ((w.length + 1 - spanF f : Nat) : Int) := by
    unfold spanF
    split <;> omega
  have s3 : gSl (.str (w ++ [c])) (some ((w.length + 1 - spanF f : Nat) : Int)) none = some (.str ((w ++ [c]).drop (w.length + 1 - spanF f)), false) := by
    rw [gSl_s (by simp; omega), cut_from]
  refine eqM (wp_body ?_)
  by_cases hc : f.ahead ≤ x.length
  · have hc' : f.ahead ≤ w.length := by unfold spanF at hm; omega
    obtain ⟨n, hn⟩ : ∃ n, n = spanF f - w.length := ⟨_, rfl⟩
    have en : (if (w.length : Int) - f.ahead - f.back < 0 then -((w.length : Int) - f.ahead - f.back) else 0) = (n : Int) := by
      unfold spanF at hn hm
      split <;> omega
    have fe := filledE f.edge (w ++ [c]) n 0 (by simp; omega) (by omega) (by decide)
    have fe' : fillE f.edge (w ++ [c]) n 0 = List.replicate n (f.edge.getD ((w ++ [c]).headD 0)) ++ (w ++ [c]) := by simp [fillE]
    obtain ⟨r, hr⟩ : ∃ r, r = List.replicate n (f.edge.getD ((w ++ [c]).headD 0)) := ⟨_, rfl⟩
    have rl : r.length = n := by rw [hr]; simp
    rw [fe', ← hr] at fe
    have fe2 : m_filled_out [D.str (w ++ [c]), edgeD f.edge, D.int (n : Int), D.int 0] = .ok (.str (r ++ (w ++ [c]))) false [] := fe
    have s1 : gSl (.str (r ++ (w ++ [c]))) none (some (n : Int)) = some (.str r, false) := by
      rw [gSl_s (by simp; omega), cut_to, List.take_left' rl]
    have z0 : (if (f.back : Int) < (w.length : Int) - f.ahead then (w.length : Int) - f.ahead - f.back else 0) = 0 := by
      unfold spanF at hm
      split <;> omega
    have s2 : gSl (.str (w ++ [c])) (some 0) none = some (.str (w ++ [c]), false) := by
      rw [gSl_s (by simp; omega), show cutD (w ++ [c]) (some 0) none = (w ++ [c]).drop 0 from cut_from _ 0, List.drop_zero]
    have a2 : gAdd (.str r) (.str (w ++ [c])) = some (.str (r ++ (w ++ [c])), false) := gAdd_str (by rw [size16]; simp; omega)
    have mw := mem_win f x c hc
    rw [← hw, ← hn, ← hr] at mw
    have tk := told_ok f g (r ++ (w ++ [c])) (by rw [mw, win_len])
    rw [mw] at tk a2
    simp [sem_next_memory, a1, gLen_s hs, gLen_s hs2, hc', en, fe2, s1, z0, s2, a2, tk, toAv, k1, s3]
    exact okE (by rw [hw, mem_snoc]; simp [one, hc])
  · have hc' : ¬ f.ahead ≤ w.length := by omega
    simp [sem_next_memory, a1, gLen_s hs, gLen_s hs2, hc', k1, s3]
    exact okE (by rw [hw, mem_snoc]; simp [one, hc])
def eD (p : Form × Nat) : D := .tup [.int (p.2 : Nat), p.1.o]
theorem enum_forms (fs : List Form) : enumD (fs.map Form.o) = (fs.zipIdx 0).map eD := by
  rw [enumD_eq, List.zipIdx_map, List.map_map]; rfl
theorem set_mid {α : Type} (A B : List α) (m d : α) : (A ++ m :: B).set A.length d = A ++ d :: B := by
  rw [List.set_append_right _ _ (Nat.le_refl _), Nat.sub_self]; rfl
theorem step_ok (l : List Cp) (fs : List Form) (g : ∀ f ∈ fs, Good f) (x : List Cp) (c : Cp) : m_Chain_step [chainO l fs, .tup ((mems fs x).map D.str), .str [c]] = .ok (.tup [.tup ((mems fs (x ++ [c])).map D.str), .str (news fs x [c])]) false [] := by
  refine eqM (wp_body ?_)
  simp [sem_Chain_step, gList, enum_forms]
  refine wp_forL (fun ds ρ => ∃ (fs' : List Form) (A B : List (List Cp)) (x' y : List Cp), ds = (fs'.zipIdx A.length).map eD ∧ (∀ f ∈ fs', Good f) ∧ y.length ≤ 1 ∧ B.length = A.length ∧ mems fs x = B ++ mems fs' x' ∧ A ++ mems fs' (x' ++ y) = mems fs (x ++ [c]) ∧ news fs' x' y = news fs x [c] ∧
    ρ = [some (chainO l fs, .sh), some (.tup ((mems fs x).map D.str), .sh), some (.str y, .sh), some (.lst ((A ++ mems fs' x').map D.str), .ow), none, none]) _ _ ⟨fs, [], [], x, [c], rfl, g, by simp, rfl, by simp, by simp, rfl, by simp⟩ ?_ ?_
  · rintro d ds ρ ⟨fs', A, B, x', y, hd, g', hy, hB, e1, e2, e3, e⟩
    subst e
    cases fs' with
    | nil => simp at hd
    | cons f fs' =>
      simp only [List.zipIdx_cons, List.map_cons, List.cons.injEq] at hd
      obtain ⟨rfl, rfl⟩ := hd
      have gf := g' f (by simp)
      simp [eD]
      match y, hy with
      | [], _ =>
        simp
        refine at_ ⟨fs', A ++ [mem f x'], B ++ [mem f x'], tells f x', [], ?_, fun q hq => g' q (by simp [hq]), by simp, by simp [hB], ?_, ?_, ?_, ?_⟩
        · simp
        · simpa [mems] using e1
        · simpa [mems] using e2
        · simpa [news, news_nil] using e3
        · simp [mems]
      | [c'], _ =>
        have ix : atI ((mems fs x).map D.str) (A.length : Int) = some (.str (mem f x')) := by
          rw [Nu.atI_nat, e1, ← hB]
          simp [mems]
        have xn : ixN (A.length + ((mems fs' (tells f x')).length + 1)) (A.length : Int) = some A.length := Evl.ixN_nat (by omega)
        have sm := set_mid (A.map D.str) ((mems fs' (tells f x')).map D.str) (.str (mem f x')) (.str (mem f (x' ++ [c'])))
        simp only [List.length_map] at sm
        simp [ix, next_ok f gf x' c', toAv, setPair, mems, xn, sm]
        refine at_ ⟨fs', A ++ [mem f (x' ++ [c'])], B ++ [mem f x'], tells f x', one f x' c', ?_, fun q hq => g' q (by simp [hq]), one_len f x' c', by simp [hB], ?_, ?_, e3, ?_⟩
        · simp
        · simpa [mems] using e1
        · simpa [mems, tells_snoc] using e2
        · simp
      | _ :: _ :: _, hy => simp at hy
  · rintro ρ ⟨fs', A, B, x', y, hd, g', hy, hB, e1, e2, e3, e⟩
    subst e
    have hn : fs' = [] := by
      cases fs' with
      | nil => rfl
      | cons f fs' => simp [List.zipIdx_cons] at hd
    subst hn
    simp [mems] at e2
    simp [mems, gTuple]
    exact okE (by rw [e2, ← e3]; rfl)
theorem flat_len (F : List (List Cp)) (h : ∀ z ∈ F, z.length ≤ 1) : F.flatten.length ≤ F.length := by
  induction F with
  | nil => simp
  | cons a F ih =>
    have h1 := h a (by simp)
    have h2 := ih fun z hz => h z (by simp [hz])
    simp only [List.flatten_cons, List.length_append, List.length_cons]
    omega
/-! ## states forget -/
/-- the last n signs are the same -/
structure Suf (n : Nat) (x y : List Cp) : Prop where
  l1 : n ≤ x.length
  l2 : n ≤ y.length
  eq : ∀ q, q < n → x[x.length - 1 - q]? = y[y.length - 1 - q]?
theorem Suf.of_app (a b s : List Cp) : Suf s.length (a ++ s) (b ++ s) := by
  refine ⟨by simp, by simp, fun q hq => ?_⟩
  rw [List.getElem?_append_right (by simp; omega), List.getElem?_append_right (by simp; omega)]
  congr 1
  simp
  omega
theorem Suf.app {n : Nat} {x y : List Cp} (h : Suf n x y) (s : List Cp) : Suf (n + s.length) (x ++ s) (y ++ s) := by
  have h1 := h.l1
  have h2 := h.l2
  refine ⟨by simp; omega, by simp; omega, fun q hq => ?_⟩
  by_cases hs : q < s.length
  · rw [List.getElem?_append_right (by simp; omega), List.getElem?_append_right (by simp; omega)]
    congr 1
    simp
    omega
  · rw [List.getElem?_append_left (by simp; omega), List.getElem?_append_left (by simp; omega)]
    have := h.eq (q - s.length) (by omega)
    have e1 : (x ++ s).length - 1 - q = x.length - 1 - (q - s.length) := by simp; omega
    have e2 : (y ++ s).length - 1 - q = y.length - 1 - (q - s.length) := by simp; omega
    rw [e1, e2]
    exact this
theorem suf_mem {n : Nat} {x y : List Cp} (f : Form) (h : Suf n x y) (hn : spanF f ≤ n) : mem f x = mem f y := by
  have h1 := h.l1
  have h2 := h.l2
  refine List.ext_getElem? fun i => ?_
  by_cases hi : i < spanF f
  · unfold mem
    rw [List.getElem?_drop, List.getElem?_drop]
    have := h.eq (spanF f - 1 - i) (by omega)
    have e1 : x.length - 1 - (spanF f - 1 - i) = x.length - spanF f + i := by omega
    have e2 : y.length - 1 - (spanF f - 1 - i) = y.length - spanF f + i := by omega
    rw [e1, e2] at this
    exact this
  · rw [List.getElem?_eq_none (by rw [mem_len]; omega), List.getElem?_eq_none (by rw [mem_len]; omega)]
theorem mem_suf {x y : List Cp} (f : Form) (h : mem f x = mem f y) (hx : spanF f ≤ x.length) (hy : spanF f ≤ y.length) : Suf (spanF f) x y := by
  refine ⟨hx, hy, fun q hq => ?_⟩
  have e : (mem f x)[spanF f - 1 - q]? = (mem f y)[spanF f - 1 - q]? := by rw [h]
  unfold mem at e
  rw [List.getElem?_drop, List.getElem?_drop] at e
  have e1 : x.length - spanF f + (spanF f - 1 - q) = x.length - 1 - q := by omega
  have e2 : y.length - spanF f + (spanF f - 1 - q) = y.length - 1 - q := by omega
  rw [e1, e2] at e
  exact e
theorem suf_tells {n : Nat} {x y : List Cp} (f : Form) (h : Suf n x y) (hn : spanF f ≤ n) : Suf (n - spanF f) (tells f x) (tells f y) := by
  have h1 := h.l1
  have h2 := h.l2
  unfold spanF at *
  refine ⟨by rw [tells_len]; omega, by rw [tells_len]; omega, fun q hq => ?_⟩
  rw [tells_len, tells_len]
  unfold tells
  rw [List.getElem?_take_of_lt (by omega), List.getElem?_take_of_lt (by omega)]
  have := suf1 f x y n h1 h2 h.eq (q + f.ahead) (by omega)
  have e1 : x.length - 1 - (q + f.ahead) = x.length - f.ahead - 1 - q := by omega
  have e2 : y.length - 1 - (q + f.ahead) = y.length - f.ahead - 1 - q := by omega
  rw [e1, e2] at this
  exact this
/-- rows with the same last signs have the same states -/
theorem mems_suf : ∀ (fs : List Form) (n : Nat) (x y : List Cp), Suf n x y → sumB fs + sumA fs ≤ n → mems fs x = mems fs y
  | [], _, _, _, _, _ => rfl
  | f :: fs, n, x, y, h, hn => by
    have e : sumB (f :: fs) + sumA (f :: fs) = spanF f + (sumB fs + sumA fs) := by simp [sumB, sumA, spanF]; omega
    rw [e] at hn
    rw [mems, mems, suf_mem f h (by omega), mems_suf fs (n - spanF f) _ _ (suf_tells f h (by omega)) (by omega)]
theorem outs_suf_drop (fs : List Form) (n : Nat) (x y : List Cp) (h : Suf n x y) (k : Nat) (hk : k + sumB fs ≤ n) : (outs fs x).drop (x.length - k) = (outs fs y).drop (y.length - k) := by
  have h1 := h.l1
  have h2 := h.l2
  refine List.ext_getElem? fun i => ?_
  rw [List.getElem?_drop, List.getElem?_drop]
  by_cases hi : i < k
  · have := suf_outs fs x y n h1 h2 h.eq (k - 1 - i) (by omega)
    have e1 : x.length - 1 - (k - 1 - i) = x.length - k + i := by omega
    have e2 : y.length - 1 - (k - 1 - i) = y.length - k + i := by omega
    rw [e1, e2] at this
    exact this
  · rw [List.getElem?_eq_none (by rw [outs_len]; omega), List.getElem?_eq_none (by rw [outs_len]; omega)]
theorem rest_same (f : Form) (x y r : List Cp) (h : mem f x = mem f y) : (out1 f (x ++ r)).drop (x.length - f.ahead) = (out1 f (y ++ r)).drop (y.length - f.ahead) := by
  have hx := mem_len f x
  have hy := mem_len f y
  rw [h] at hx
  by_cases hl : x.length < spanF f
  · have e1 : mem f x = x := by unfold mem; rw [Nat.sub_eq_zero_of_le (by omega), List.drop_zero]
    have e2 : mem f y = y := by unfold mem; rw [Nat.sub_eq_zero_of_le (by omega), List.drop_zero]
    rw [e1, e2] at h
    rw [h]
  · have s := (mem_suf f h (by omega) (by omega)).app r
    have := outs_suf_drop [f] _ _ _ s (f.ahead + r.length) (by simp [sumB, spanF]; omega)
    unfold spanF at hl hx hy
    have e1 : (x ++ r).length - (f.ahead + r.length) = x.length - f.ahead := by simp; omega
    have e2 : (y ++ r).length - (f.ahead + r.length) = y.length - f.ahead := by simp; omega
    rw [e1, e2] at this
    exact this
/-- rows with the same state go on alike -/
theorem mems_on : ∀ (fs : List Form) (x y r : List Cp), mems fs x = mems fs y → (outs fs (x ++ r)).drop (tellsC fs x).length = (outs fs (y ++ r)).drop (tellsC fs y).length
  | [], x, y, r, _ => by
    show (x ++ r).drop x.length = (y ++ r).drop y.length
    rw [List.drop_left' rfl, List.drop_left' rfl]
  | f :: fs, x, y, r, h => by
    simp only [mems, List.cons.injEq] at h
    have hr := rest_same f x y r h.1
    obtain ⟨R, hR⟩ : ∃ R, R = (out1 f (x ++ r)).drop (x.length - f.ahead) := ⟨_, rfl⟩
    rw [← hR] at hr
    have wx : out1 f (x ++ r) = tells f x ++ R := by rw [hR, ← tells_pre f x r, List.take_append_drop]
    have wy : out1 f (y ++ r) = tells f y ++ R := by rw [hr, ← tells_pre f y r, List.take_append_drop]
    rw [outs_cons, outs_cons, wx, wy, tellsC, tellsC]
    exact mems_on fs (tells f x) (tells f y) R h.2
/-! ### data of texts -/
theorem eqv_strs : ∀ (A B : List (List Cp)), PyData.eqvAll (A.map fun x => .str (toStr x)) (B.map fun x => .str (toStr x)) = decide (A = B)
  | [], [] => rfl
  | [], _ :: _ => rfl
  | _ :: _, [] => rfl
  | a :: A, b :: B => by
    simp only [List.map_cons, PyData.eqvAll, PyData.eqv, eqv_strs A B]
    by_cases h : a = b
    · subst h; simp
    · have : (toStr a == toStr b) = false := by
        rw [beq_eq_false_iff_ne]
        exact fun e => h (toStr_inj e)
      rw [this]
      simp [h]
theorem toPys_strs : ∀ A : List (List Cp), toPys (A.map D.str) = some (A.map fun x => .str (toStr x))
  | [] => by simp [toPys]
  | a :: A => by simp [toPys, toPy, toPys_strs A]
theorem gEq_strsT (A B : List (List Cp)) : gEq (.tup (A.map D.str)) (.tup (B.map D.str)) = some (.bl (decide (A = B)), false) := by
  have hd : ∀ A : List (List Cp), dataB 1 (.tup (A.map D.str)) = true := fun A => dataB_tup fun d hd => by obtain ⟨z, _, rfl⟩ := List.mem_map.mp hd; simp [dataB]
  obtain ⟨p, e, _⟩ := pyOf_data (hd A) (by decide)
  obtain ⟨q, e', _⟩ := pyOf_data (hd B) (by decide)
  have tp : ∀ (A : List (List Cp)) (p : PyData), pyOf (.tup (A.map D.str)) = some p → p = .tuple (A.map fun x => .str (toStr x)) := by
    intro A p e
    unfold pyOf at e
    obtain ⟨w, e1, e2⟩ := Option.bind_eq_some_iff.mp e
    unfold toPy at e1
    rw [toPys_strs] at e1
    cases e1
    split at e2
    · cases e2; rfl
    · cases e2
  have h1 := tp A p e
  have h2 := tp B q e'
  subst h1 h2
  simp [gEq, e, e', PyData.eqv, eqv_strs]
end Law
namespace Law
open PySem Nu L2
/-! ## rules written otherwise -/
structure Twin (f h : Form) : Prop where
  le : h.letters = f.letters
  ed : h.edge = f.edge
  bk : h.back = f.back
  ah : h.ahead = f.ahead
  gv : ∀ w : List Cp, w.length = f.wide → (∀ c ∈ w, c ∈ f.letters) → give h w = give f w
theorem Twin.wide {f h : Form} (t : Twin f h) : h.wide = f.wide := by unfold Form.wide; rw [t.bk, t.ah]
def Over (l z : List Cp) : Prop := ∀ c ∈ z, c ∈ l
theorem getD_memT {l z : List Cp} {i : Nat} (hz : Over l z) (h : i < z.length) : z.getD i 0 ∈ l := by
  rw [List.getD_eq_getElem?_getD, List.getElem?_eq_getElem h]
  exact hz _ (List.getElem_mem h)
theorem eL_memT {f : Form} (g : Good f) {z : List Cp} (hz : Over f.letters z) (h0 : z ≠ []) : eL f z ∈ f.letters := by
  unfold eL
  cases he : f.edge with
  | some c => exact g.ed c he
  | none =>
    rw [headD_get]
    exact getD_memT hz (List.length_pos_iff.mpr h0)
theorem eR_memT {f : Form} (g : Good f) {z : List Cp} (hz : Over f.letters z) (h0 : z ≠ []) : eR f z ∈ f.letters := by
  unfold eR
  cases he : f.edge with
  | some c => exact g.ed c he
  | none =>
    rw [lastD_get]
    have := List.length_pos_iff.mpr h0
    exact getD_memT hz (by omega)
theorem charAt_memT {f : Form} (g : Good f) {z : List Cp} (hz : Over f.letters z) (h0 : z ≠ []) (s : Int) : charAt f z s ∈ f.letters := by
  unfold charAt
  split
  · exact getD_memT hz (by omega)
  · split
    · exact eL_memT g hz h0
    · exact eR_memT g hz h0
theorem win_overT {f : Form} (g : Good f) {z : List Cp} (hz : Over f.letters z) (h0 : z ≠ []) (p : Nat) : Over f.letters (win f z p) := by
  intro c hc
  obtain ⟨i, _, rfl⟩ := List.mem_map.mp hc
  exact charAt_memT g hz h0 _
theorem give_memT {f : Form} (g : Good f) {w : List Cp} (hl : w.length = f.wide) (hw : Over f.letters w) : give f w ∈ f.letters := by
  unfold give
  cases hf : f.rules.find? fun r => fits r.1 w with
  | some r => exact (g.ru r (List.mem_of_find?_eq_some hf)).mr
  | none => exact getD_memT hw (by rw [hl]; unfold Form.wide; omega)
theorem out1_overT {f : Form} (g : Good f) {z : List Cp} (hz : Over f.letters z) : Over f.letters (out1 f z) := by
  rw [out1_eq]
  intro c hc
  obtain ⟨p, hp, rfl⟩ := List.mem_map.mp hc
  have h0 : z ≠ [] := by intro e; subst e; simp at hp
  exact give_memT g (win_len f z p) (win_overT g hz h0 p)
theorem charAt_twin {f h : Form} (t : Twin f h) (z : List Cp) (s : Int) : charAt h z s = charAt f z s := by
  unfold charAt eL eR
  rw [t.ed]
theorem win_twin {f h : Form} (t : Twin f h) (z : List Cp) (p : Nat) : win h z p = win f z p := by
  unfold win
  rw [t.wide, t.bk]
  exact List.map_congr_left fun i _ => charAt_twin t z _
theorem out1_twin {f h : Form} (t : Twin f h) (g : Good f) {z : List Cp} (hz : Over f.letters z) : out1 h z = out1 f z := by
  rw [out1_eq, out1_eq]
  refine List.map_congr_left fun p hp => ?_
  have h0 : z ≠ [] := by intro e; subst e; simp at hp
  rw [win_twin t, t.gv _ (win_len f z p) (win_overT g hz h0 p)]
theorem ringW_twin {f h : Form} (t : Twin f h) (z : List Cp) (p : Nat) : ringW h z p = ringW f z p := by
  unfold ringW
  rw [t.wide, t.bk]
theorem charR_memT {l z : List Cp} (hz : Over l z) (h0 : z ≠ []) (s : Int) : charR z s ∈ l := by
  unfold charR
  have hl : 0 < z.length := List.length_pos_iff.mpr h0
  have a1 := Int.emod_nonneg s (show (z.length : Int) ≠ 0 by omega)
  have a2 := Int.emod_lt_of_pos s (show (0 : Int) < (z.length : Int) by omega)
  exact getD_memT hz (by omega)
theorem ringW_overT {f : Form} {z : List Cp} (hz : Over f.letters z) (h0 : z ≠ []) (p : Nat) : Over f.letters (ringW f z p) := by
  intro c hc
  unfold ringW at hc
  obtain ⟨i, _, rfl⟩ := List.mem_map.mp hc
  exact charR_memT hz h0 _
theorem ringW_lenT (f : Form) (z : List Cp) (p : Nat) : (ringW f z p).length = f.wide := by simp [ringW]
theorem ring1_get_eq (f : Form) (z : List Cp) : ring1 f z = (List.range z.length).map fun p => give f (ringW f z p) := by
  refine List.ext_getElem? fun p => ?_
  rw [ring1_get, List.getElem?_map]
  by_cases hp : p < z.length
  · rw [if_pos hp, List.getElem?_range hp]; rfl
  · rw [if_neg hp, List.getElem?_eq_none (by simpa using hp)]; rfl
theorem ring1_twin {f h : Form} (t : Twin f h) {z : List Cp} (hz : Over f.letters z) : ring1 h z = ring1 f z := by
  rw [ring1_get_eq, ring1_get_eq]
  refine List.map_congr_left fun p hp => ?_
  have h0 : z ≠ [] := by intro e; subst e; simp at hp
  rw [ringW_twin t, t.gv _ (ringW_lenT f z p) (ringW_overT hz h0 p)]
theorem ring1_overT {f : Form} (g : Good f) {z : List Cp} (hz : Over f.letters z) : Over f.letters (ring1 f z) := by
  rw [ring1_get_eq]
  intro c hc
  obtain ⟨p, hp, rfl⟩ := List.mem_map.mp hc
  have h0 : z ≠ [] := by intro e; subst e; simp at hp
  exact give_memT g (ringW_lenT f z p) (ringW_overT hz h0 p)
/-- pass by pass -/
inductive Twins (l : List Cp) : List Form → List Form → Prop
  | nil : Twins l [] []
  | cons {f h : Form} {fs hs : List Form} : Twin f h → Good f → f.letters = l → Twins l fs hs → Twins l (f :: fs) (h :: hs)
theorem outs_twin {l : List Cp} : ∀ {fs hs : List Form}, Twins l fs hs → ∀ z : List Cp, Over l z → outs hs z = outs fs z
  | _, _, .nil, z, _ => rfl
  | _, _, .cons (f := f) (h := h) t g e r, z, hz => by
    subst e
    rw [outs_cons, outs_cons, out1_twin t g hz]
    exact outs_twin r _ (out1_overT g hz)
theorem rings_cons (f : Form) (fs : List Form) (z : List Cp) : rings (f :: fs) z = rings fs (ring1 f z) := rfl
theorem rings_twin {l : List Cp} : ∀ {fs hs : List Form}, Twins l fs hs → ∀ z : List Cp, Over l z → rings hs z = rings fs z
  | _, _, .nil, z, _ => rfl
  | _, _, .cons (f := f) (h := h) t g e r, z, hz => by
    subst e
    rw [rings_cons, rings_cons, ring1_twin t hz]
    exact rings_twin r _ (ring1_overT g hz)
theorem tells_twin {f h : Form} (t : Twin f h) (g : Good f) {z : List Cp} (hz : Over f.letters z) : tells h z = tells f z := by
  unfold tells
  rw [out1_twin t g hz, t.ah]
theorem tells_over {f : Form} (g : Good f) {z : List Cp} (hz : Over f.letters z) : Over f.letters (tells f z) := fun c hc => out1_overT g hz c (List.mem_of_mem_take hc)
theorem mems_twin {l : List Cp} : ∀ {fs hs : List Form}, Twins l fs hs → ∀ z : List Cp, Over l z → mems hs z = mems fs z ∧ tellsC hs z = tellsC fs z
  | _, _, .nil, z, _ => ⟨rfl, rfl⟩
  | _, _, .cons (f := f) (h := h) t g e r, z, hz => by
    subst e
    have i := mems_twin r (tells f z) (tells_over g hz)
    rw [mems, mems, tellsC, tellsC, tells_twin t g hz, i.1, i.2]
    exact ⟨by unfold mem spanF; rw [t.bk, t.ah], rfl⟩
/-! ### the four ways -/
theorem give_find {f h : Form} (e : h.back = f.back) (w : List Cp) (he : (h.rules.find? fun r => fits r.1 w).map (·.2) = (f.rules.find? fun r => fits r.1 w).map (·.2)) : give h w = give f w := by
  unfold give
  cases h1 : h.rules.find? fun r => fits r.1 w with
  | none =>
    cases h2 : f.rules.find? fun r => fits r.1 w with
    | none => simp only [e]
    | some r => rw [h1, h2] at he; cases he
  | some q =>
    cases h2 : f.rules.find? fun r => fits r.1 w with
    | none => rw [h1, h2] at he; cases he
    | some r => rw [h1, h2] at he; simpa using he
end Law
namespace Law
open PySem Nu L2
def ruF (f : Form) (rs : List Rule) : Form := ⟨f.letters, rs, f.edge, f.back, f.ahead⟩
theorem twin_of {f : Form} {rs : List Rule} (h : ∀ w : List Cp, w.length = f.wide → (∀ c ∈ w, c ∈ f.letters) → give (ruF f rs) w = give f w) : Twin f (ruF f rs) := ⟨rfl, rfl, rfl, rfl, h⟩
theorem ruF_good {f : Form} (g : Good f) {rs : List Rule} (hl : rs.length ≤ 12) (h : ∀ r ∈ rs, RuleOk f.letters f.wide r) : Good (ruF f rs) := ⟨g.al, hl, h, g.ed, g.bk, g.ah⟩
/-- rules that never come to be used -/
theorem way0 {f : Form} {E : List Rule} (hE : ∀ q ∈ E, ∃ r ∈ f.rules, r.1 = q.1) : Twin f (ruF f (f.rules ++ E)) := by
  refine twin_of fun w _ _ => give_find (f := f) (h := ruF f (f.rules ++ E)) rfl w ?_
  show ((f.rules ++ E).find? fun r => fits r.1 w).map (·.2) = _
  rw [List.find?_append]
  cases h : f.rules.find? fun r => fits r.1 w with
  | some r => rfl
  | none =>
    have : (E.find? fun r => fits r.1 w) = none := by
      rw [List.find?_eq_none]
      intro q hq
      obtain ⟨r, hr, e⟩ := hE q hq
      have := (List.find?_eq_none.mp h) r hr
      rw [e] at this
      exact this
    rw [this]; rfl
/-- the signs that stay, told by rules -/
def stayR (f : Form) (c : Cp) : Rule := (List.replicate f.back [] ++ [[c]] ++ List.replicate f.ahead [], c)
theorem fits_stay {f : Form} {w : List Cp} (hw : w.length = f.wide) (c : Cp) : fits (stayR f c).1 w = decide (w.getD f.back 0 = c) := by
  unfold Form.wide at hw
  have hb : f.back < w.length := by omega
  have hwb : w[f.back]? = some (w.getD f.back 0) := by rw [List.getD_eq_getElem?_getD, List.getElem?_eq_getElem hb]; rfl
  rw [Bool.eq_iff_iff, fits_iff]
  have len : (stayR f c).1.length = f.back + 1 + f.ahead := by simp [stayR]; omega
  have atb : ∀ i (h : i < (stayR f c).1.length), (stayR f c).1[i] = if i = f.back then [c] else [] := by
    intro i h
    simp only [stayR]
    by_cases h1 : i < f.back
    · rw [List.getElem_append_left (by simp; omega), List.getElem_append_left (by simpa using h1), if_neg (by omega)]
      simp
    · by_cases h2 : i = f.back
      · subst h2
        rw [List.getElem_append_left (by simp), List.getElem_append_right (by simp), if_pos rfl]
        simp
      · rw [List.getElem_append_right (by simp; omega), if_neg h2]
        simp
  constructor
  · intro H
    have := H f.back (by rw [len]; omega)
    rw [atb, if_pos rfl] at this
    unfold fit1 at this
    simp only [hwb] at this
    simpa using this
  · intro H i hi
    rw [atb]
    unfold fit1
    by_cases h2 : i = f.back
    · subst h2
      rw [if_pos rfl]
      simp only [hwb]
      simpa using H
    · rw [if_neg h2]
      simp
theorem way2 {f : Form} (g : Good f) : Twin f (ruF f (f.rules ++ f.letters.map (stayR f))) := by
  refine twin_of fun w hw ho => ?_
  have hb : f.back < w.length := by rw [hw]; unfold Form.wide; omega
  unfold give
  show (match (f.rules ++ f.letters.map (stayR f)).find? fun r => fits r.1 w with
    | some r => r.2
    | none => w.getD f.back 0) = _
  rw [List.find?_append]
  cases h : f.rules.find? fun r => fits r.1 w with
  | some r => rfl
  | none =>
    simp only [Option.none_or]
    cases h2 : (f.letters.map (stayR f)).find? fun r => fits r.1 w with
    | none => rfl
    | some q =>
      obtain ⟨c, _, rfl⟩ := List.mem_map.mp (List.mem_of_find?_eq_some h2)
      have := List.find?_some h2
      rw [fits_stay hw c] at this
      exact (of_decide_eq_true this).symm
theorem stay_ok {f : Form} (g : Good f) {c : Cp} (hc : c ∈ f.letters) : RuleOk f.letters f.wide (stayR f c) := by
  refine ⟨by simp [stayR, Form.wide]; omega, hc, fun p hp => ?_⟩
  simp only [stayR, List.mem_append, List.mem_replicate, List.mem_cons, List.not_mem_nil, or_false] at hp
  rcases hp with (⟨_, rfl⟩ | rfl) | ⟨_, rfl⟩
  · exact ⟨by simp, by simp⟩
  · exact ⟨by simp, by simpa using hc⟩
  · exact ⟨by simp, by simp⟩
/-- parts that let every sign in, written out -/
def fullR (l : List Cp) (r : Rule) : Rule := (r.1.map fun p => if p = [] then l else p, r.2)
theorem fits_full {l w : List Cp} (p : List (List Cp)) (hp : p.length ≤ w.length) (ho : ∀ c ∈ w, c ∈ l) : fits (p.map fun q => if q = [] then l else q) w = fits p w := by
  rw [Bool.eq_iff_iff, fits_iff, fits_iff]
  have key : ∀ i (h : i < p.length), fit1 w (if p[i] = [] then l else p[i], i) = fit1 w (p[i], i) := by
    intro i h
    by_cases e : p[i] = []
    · rw [if_pos e, e]
      have hi : i < w.length := by omega
      unfold fit1
      simp only [List.getElem?_eq_getElem hi, decide_true, Bool.true_or]
      have := ho _ (List.getElem_mem hi)
      simp [this]
    · rw [if_neg e]
  constructor
  · intro H i h
    have := H i (by simpa using h)
    simp only [List.getElem_map] at this
    rw [key i h] at this
    exact this
  · intro H i h
    have h' : i < p.length := by simpa using h
    simp only [List.getElem_map]
    rw [key i h']
    exact H i h'
theorem way3 {f : Form} (g : Good f) : Twin f (ruF f (f.rules.map (fullR f.letters))) := by
  refine twin_of fun w hw ho => give_find (f := f) (h := ruF f (f.rules.map (fullR f.letters))) rfl w ?_
  show ((f.rules.map (fullR f.letters)).find? fun r => fits r.1 w).map (·.2) = _
  have key : ∀ rs : List Rule, (∀ r ∈ rs, r.1.length = f.wide) → ((rs.map (fullR f.letters)).find? fun r => fits r.1 w).map (·.2) = (rs.find? fun r => fits r.1 w).map (·.2) := by
    intro rs h
    induction rs with
    | nil => rfl
    | cons r rs ih =>
      have e : fits (fullR f.letters r).1 w = fits r.1 w := fits_full r.1 (by rw [h r (by simp), hw]; exact Nat.le_refl _) ho
      have i := ih fun q hq => h q (by simp [hq])
      simp only [List.map_cons, List.find?_cons, e]
      cases fits r.1 w with
      | true => rfl
      | false => exact i
  exact key f.rules fun r hr => (g.ru r hr).len
theorem full_ok {f : Form} (g : Good f) {r : Rule} (hr : RuleOk f.letters f.wide r) : RuleOk f.letters f.wide (fullR f.letters r) := by
  refine ⟨by simpa [fullR] using hr.len, hr.mr, fun p hp => ?_⟩
  obtain ⟨q, hq, rfl⟩ := List.mem_map.mp hp
  split
  · exact ⟨g.al.nd, fun c hc => hc⟩
  · exact hr.pt q hq
/-- rules parted by the signs that they let in -/
def someOf (n : Nat) (p : List Cp) : List (List Cp) := if 1 < p.length ∧ n * p.length < 5 then p.map fun c => [c] else [p]
def pStep (ls : List (List (List Cp))) (p : List Cp) : List (List (List Cp)) := ls.flatMap fun q => (someOf ls.length p).map fun e => q ++ [e]
def partsOf (P : List (List Cp)) : List (List (List Cp)) := P.foldl pStep [[]]
theorem fits_snoc (q : List (List Cp)) (e w : List Cp) : fits (q ++ [e]) w = (fits q w && fit1 w (e, q.length)) := by
  unfold fits
  simp [List.zipIdx_append, List.all_append]
theorem fit1_some (n : Nat) (p w : List Cp) (i : Nat) : ((someOf n p).any fun e => fit1 w (e, i)) = fit1 w (p, i) := by
  unfold someOf
  split
  · rename_i h
    have hne : p ≠ [] := by intro e; subst e; simp at h
    rw [Bool.eq_iff_iff]
    unfold fit1
    cases hw : w[i]? with
    | none => simp [hne, hw]
    | some c =>
      simp only [List.any_map, List.any_eq_true, Function.comp]
      constructor
      · rintro ⟨x, hx, h⟩
        simp [hw] at h
        subst h
        simp [hx]
      · intro h
        simp [hne] at h
        exact ⟨c, h, by simp [hw]⟩
  · simp
structure PartsP (P : List (List Cp)) (ls : List (List (List Cp))) : Prop where
  n4 : ls.length ≤ 4
  len : ∀ q ∈ ls, q.length = P.length
  ft : ∀ w, (ls.any fun q => fits q w) = fits P w
  sub : ∀ q ∈ ls, ∀ e ∈ q, ∃ p ∈ P, e = p ∨ ∃ c ∈ p, e = [c]
theorem parts_snoc {P : List (List Cp)} {ls : List (List (List Cp))} (h : PartsP P ls) (p : List Cp) : PartsP (P ++ [p]) (pStep ls p) := by
  refine ⟨?_, ?_, ?_, ?_⟩
  · unfold pStep
    have h4 := h.n4
    have e : ∀ (k : List (List (List Cp))) (s : List (List Cp)), (k.flatMap fun q => s.map fun e => q ++ [e]).length = k.length * s.length := by
      intro k s
      induction k with
      | nil => simp
      | cons a k ih => simp only [List.flatMap_cons, List.length_append, List.length_map, ih, List.length_cons, Nat.add_mul]; omega
    rw [e]
    unfold someOf
    split
    · rename_i hc; simp; omega
    · simpa using h4
  · intro q hq
    obtain ⟨x, hx, hq⟩ := List.mem_flatMap.mp hq
    obtain ⟨e, _, rfl⟩ := List.mem_map.mp hq
    simp [h.len x hx]
  · intro w
    rw [fits_snoc, ← h.ft w]
    have key : ∀ (k : List (List (List Cp))), (∀ q ∈ k, q.length = P.length) → ((k.flatMap fun q => (someOf ls.length p).map fun e => q ++ [e]).any fun q => fits q w) = ((k.any fun q => fits q w) && fit1 w (p, P.length)) := by
      intro k hk
      induction k with
      | nil => simp
      | cons a k ih =>
        rw [List.flatMap_cons, List.any_append, ih fun q hq => hk q (by simp [hq])]
        have ea : (((someOf ls.length p).map fun e => a ++ [e]).any fun q => fits q w) = (fits a w && fit1 w (p, P.length)) := by
          rw [List.any_map, ← fit1_some ls.length p w P.length]
          have : (fun q => fits q w) ∘ (fun e => a ++ [e]) = fun e => fits a w && fit1 w (e, P.length) := by
            funext e
            simp only [Function.comp, fits_snoc, hk a (by simp)]
          rw [this]
          cases fits a w <;> simp
        rw [ea, List.any_cons]
        cases fits a w <;> cases (k.any fun q => fits q w) <;> cases fit1 w (p, P.length) <;> rfl
    exact key ls h.len
  · intro q hq e he
    obtain ⟨x, hx, hq⟩ := List.mem_flatMap.mp hq
    obtain ⟨e', he', rfl⟩ := List.mem_map.mp hq
    rcases List.mem_append.mp he with h1 | h1
    · obtain ⟨p', hp', o⟩ := h.sub x hx e h1
      exact ⟨p', by simp [hp'], o⟩
    · rw [List.mem_singleton.mp h1]
      refine ⟨p, by simp, ?_⟩
      unfold someOf at he'
      split at he'
      · obtain ⟨c, hc, rfl⟩ := List.mem_map.mp he'
        exact .inr ⟨c, hc, rfl⟩
      · exact .inl (List.mem_singleton.mp he')
theorem parts_nil : PartsP [] [[]] := ⟨by simp, by simp, fun w => by simp [fits], by simp⟩
theorem parts_fold : ∀ (R P : List (List Cp)) (ls : List (List (List Cp))), PartsP P ls → PartsP (P ++ R) (R.foldl pStep ls)
  | [], P, ls, h => by simpa using h
  | p :: R, P, ls, h => by
    have := parts_fold R (P ++ [p]) (pStep ls p) (parts_snoc h p)
    simpa using this
theorem parts_ok (P : List (List Cp)) : PartsP P (partsOf P) := by have := parts_fold P [] [[]] parts_nil; rw [List.nil_append] at this; exact this
def partR (r : Rule) : List Rule := (partsOf r.1).map fun q => (q, r.2)
theorem way1 {f : Form} (g : Good f) : Twin f (ruF f (f.rules.flatMap partR)) := by
  refine twin_of fun w hw ho => give_find (f := f) (h := ruF f (f.rules.flatMap partR)) rfl w ?_
  show ((f.rules.flatMap partR).find? fun r => fits r.1 w).map (·.2) = _
  have key : ∀ rs : List Rule, ((rs.flatMap partR).find? fun r => fits r.1 w).map (·.2) = (rs.find? fun r => fits r.1 w).map (·.2) := by
    intro rs
    induction rs with
    | nil => rfl
    | cons r rs ih =>
      rw [List.flatMap_cons, List.find?_append]
      have ft := (parts_ok r.1).ft w
      cases hf : fits r.1 w with
      | true =>
        rw [hf] at ft
        rw [List.find?_cons, hf]
        obtain ⟨q, hq, hw⟩ := List.any_eq_true.mp ft
        cases hx : (partR r).find? fun r => fits r.1 w with
        | none =>
          have := List.find?_eq_none.mp hx (q, r.2) (List.mem_map.mpr ⟨q, hq, rfl⟩)
          simp [hw] at this
        | some x =>
          obtain ⟨q', _, rfl⟩ := List.mem_map.mp (List.mem_of_find?_eq_some hx)
          rfl
      | false =>
        rw [hf] at ft
        have hx : ((partR r).find? fun r => fits r.1 w) = none := by
          rw [List.find?_eq_none]
          intro x hx
          obtain ⟨q, hq, rfl⟩ := List.mem_map.mp hx
          have := List.any_eq_false.mp ft q hq
          simpa using this
        rw [hx, List.find?_cons, hf]
        exact ih
  exact key f.rules
theorem part_ok {f : Form} (g : Good f) {r q : Rule} (hr : RuleOk f.letters f.wide r) (hq : q ∈ partR r) : RuleOk f.letters f.wide q := by
  obtain ⟨x, hx, rfl⟩ := List.mem_map.mp hq
  have pk := parts_ok r.1
  refine ⟨by rw [← hr.len]; exact pk.len x hx, hr.mr, fun p hp => ?_⟩
  obtain ⟨p', hp', o⟩ := pk.sub x hx p hp
  rcases o with rfl | ⟨c, hc, rfl⟩
  · exact hr.pt _ hp'
  · exact ⟨by simp, fun d hd => by rw [List.mem_singleton.mp hd]; exact (hr.pt p' hp').2 c hc⟩
end Law
namespace Law
open PySem Nu L2
def lineD (q : List (List Cp)) : D := .tup (q.map D.str)
theorem parted_ok (rs : List Rule) (hn : rs.length ≤ 12) (hp : ∀ r ∈ rs, r.1.length ≤ 5 ∧ ∀ p ∈ r.1, p.length ≤ 4) : m__law_parted [.tup (rs.map ruleD)] = .ok (.tup ((rs.flatMap partR).map ruleD)) false [] := by
  have sz : ∀ n : Nat, n ≤ 1000 → n ≤ PySem.sizeLine := fun n h => by rw [size16]; omega
  refine eqM (wp_body ?_)
  simp [sem__law_parted]
  refine wp_forL (fun ds ρ => ∃ (rs' A : List Rule), ds = rs'.map ruleD ∧ (∀ r ∈ rs', r ∈ rs) ∧ A ++ rs'.flatMap partR = rs.flatMap partR ∧ A.length + 4 * rs'.length ≤ 4 * rs.length ∧
    ρ = [some (.tup (rs.map ruleD), .sh), some (.lst (A.map ruleD), .ow), none, none, none, none, none, none, none, none]) _ _ ⟨rs, [], rfl, fun _ h => h, rfl, by simp, rfl⟩ ?_ ?_
  · rintro d ds ρ ⟨rs', A, hd, hm, e1, hl, e⟩
    subst e
    cases rs' with
    | nil => simp at hd
    | cons r rs' =>
      simp only [List.map_cons, List.cons.injEq] at hd
      obtain ⟨rfl, rfl⟩ := hd
      obtain ⟨hr5, hrp⟩ := hp r (hm r (by simp))
      simp only [List.length_cons] at hl
      simp [ruleD]
      refine wp_forL (fun ds ρ => ∃ (R P : List (List Cp)) (ls : List (List (List Cp))) (kd : Kd), ds = R.map D.str ∧ (∀ p ∈ R, p.length ≤ 4) ∧ PartsP P ls ∧ (kd = .ow ∨ kd = .sh) ∧ P ++ R = r.1 ∧ R.foldl pStep ls = partsOf r.1 ∧
        ρ = [some (.tup (rs.map ruleD), .sh), some (.lst (A.map ruleD), .ow), some (.tup (r.1.map D.str), .sh), some (.str [r.2], .sh), some (.lst (ls.map lineD), kd), none, none, none, none, none]) _ _ ⟨r.1, [], [[]], .ow, rfl, hrp, parts_nil, .inl rfl, rfl, rfl, rfl⟩ ?_ ?_
      · rintro d ds ρ ⟨R, P, ls, kd, hd, hR4, pp, hk, hPR, e2, e⟩
        subst e
        cases R with
        | nil => simp at hd
        | cons p R =>
          simp only [List.map_cons, List.cons.injEq] at hd
          obtain ⟨rfl, rfl⟩ := hd
          have hp4 := hR4 p (by simp)
          have n4 := pp.n4
          have hpz : p.length ≤ PySem.sizeLine := sz _ (by omega)
          obtain ⟨S, hS⟩ : ∃ S, S = someOf ls.length p := ⟨_, rfl⟩
          have hS4 : S.length ≤ 4 := by rw [hS]; unfold someOf; split <;> simp; omega
          have hql : ∀ q ∈ ls, q.length ≤ 5 := fun q hq => by rw [pp.len q hq]; have := congrArg List.length hPR; simp at this; omega
          have gl : gLen [.lst (ls.map lineD)] = some (.int ls.length, false) := by simp [gLen]
          have gm : gMul (.int (ls.length : Int)) (.int (p.length : Int)) = some (.int ((ls.length : Int) * (p.length : Int)), false) := by
            simp only [gMul]
            rw [if_pos (by omega)]
          by_cases hc1 : 1 < p.length
          · have hc1' : (1 : Int) < (p.length : Int) := by omega
            by_cases hc2 : ls.length * p.length < 5
            · have hc2' : (ls.length : Int) * (p.length : Int) < 5 := by rw [← Int.natCast_mul]; omega
              have cS : chars p = S.map D.str := by rw [hS]; unfold someOf chars; rw [if_pos ⟨hc1, hc2⟩]; simp
              rcases hk with rfl | rfl
              · simp [gLen_s hpz, hc1', gl, gm, hc2', gList, hpz, cS]
                refine wp_forL (fun ds ρ => ∃ (ls' acc : List (List (List Cp))) (k6 : Kd), (k6 = .ow ∨ k6 = .sh) ∧ ds = ls'.map lineD ∧ (∀ q ∈ ls', q ∈ ls) ∧ acc ++ (ls'.flatMap fun q => S.map fun e => q ++ [e]) = pStep ls p ∧ acc.length + 4 * ls'.length ≤ 100 ∧
                  ρ = [some (.tup (rs.map ruleD), .sh), some (.lst (A.map ruleD), .ow), some (.tup (r.1.map D.str), .sh), some (.str [r.2], .sh), some (.lst (ls.map lineD), .sh), some (.str p, .sh), some (.lst (S.map D.str), k6), some (.lst (acc.map lineD), .ow), none, none]) _ _ ⟨ls, [], .ow, .inl rfl, rfl, fun _ h => h, by rw [hS]; rfl, by simp; omega, rfl⟩ ?_ ?_
                · rintro d ds ρ ⟨ls', acc, k6, h6, hd, hml, e3, hal, e⟩
                  subst e
                  cases ls' with
                  | nil => simp at hd
                  | cons q ls' =>
                    simp only [List.map_cons, List.cons.injEq] at hd
                    obtain ⟨rfl, rfl⟩ := hd
                    have hq5 := hql q (hml q (by simp))
                    simp only [List.length_cons] at hal
                    rcases h6 with rfl | rfl
                    · simp [lineD]
                      refine wp_lcM D.str (fun e => lineD (q ++ [e])) S (sz _ (by omega)) (fun e he => ?_) ?_
                      · have ad : gAdd (.tup (q.map D.str)) (.tup [.str e]) = some (.tup ((q ++ [e]).map D.str), false) := by rw [gAdd_tup (by simp; exact sz _ (by omega))]; simp
                        simp [ad, lineD]
                        exact ak_ ⟨by simp, rfl⟩
                      · have ad : gAdd (.lst (acc.map lineD)) (.lst (S.map fun e => lineD (q ++ [e]))) = some (.lst ((acc ++ S.map fun e => q ++ [e]).map lineD), true) := by rw [gAdd_lst (by simp; exact sz _ (by omega))]; simp
                        have ad' : gAdd (.lst (acc.map fun q => D.tup (q.map D.str))) (.lst (S.map fun e => lineD (q ++ [e]))) = some (.lst ((acc ++ S.map fun e => q ++ [e]).map lineD), true) := ad
                        simp [ad, -List.map_append, -List.map_map]
                        exact at_ ⟨ls', acc ++ S.map fun e => q ++ [e], .sh, .inr rfl, rfl, fun x hx => hml x (by simp [hx]), by simpa using e3, by simp; omega, rfl⟩
                    · simp [lineD]
                      refine wp_lcM D.str (fun e => lineD (q ++ [e])) S (sz _ (by omega)) (fun e he => ?_) ?_
                      · have ad : gAdd (.tup (q.map D.str)) (.tup [.str e]) = some (.tup ((q ++ [e]).map D.str), false) := by rw [gAdd_tup (by simp; exact sz _ (by omega))]; simp
                        simp [ad, lineD]
                        exact ak_ ⟨by simp, rfl⟩
                      · have ad : gAdd (.lst (acc.map lineD)) (.lst (S.map fun e => lineD (q ++ [e]))) = some (.lst ((acc ++ S.map fun e => q ++ [e]).map lineD), true) := by rw [gAdd_lst (by simp; exact sz _ (by omega))]; simp
                        have ad' : gAdd (.lst (acc.map fun q => D.tup (q.map D.str))) (.lst (S.map fun e => lineD (q ++ [e]))) = some (.lst ((acc ++ S.map fun e => q ++ [e]).map lineD), true) := ad
                        simp [ad, -List.map_append, -List.map_map]
                        exact at_ ⟨ls', acc ++ S.map fun e => q ++ [e], .sh, .inr rfl, rfl, fun x hx => hml x (by simp [hx]), by simpa using e3, by simp; omega, rfl⟩
                · rintro ρ ⟨ls', acc, k6, h6, hd, hml, e3, hal, e⟩
                  subst e
                  have hn : ls' = [] := by cases ls' with
                    | nil => rfl
                    | cons f fs' => simp at hd
                  subst hn
                  have e3' : acc = pStep ls p := by simpa using e3
                  simp
                  exact at_ ⟨R, P ++ [p], pStep ls p, .sh, rfl, fun x hx => hR4 x (by simp [hx]), parts_snoc pp p, .inr rfl, by simpa using hPR, e2, by rw [e3']⟩
              · simp [gLen_s hpz, hc1', gl, gm, hc2', gList, hpz, cS]
                refine wp_forL (fun ds ρ => ∃ (ls' acc : List (List (List Cp))) (k6 : Kd), (k6 = .ow ∨ k6 = .sh) ∧ ds = ls'.map lineD ∧ (∀ q ∈ ls', q ∈ ls) ∧ acc ++ (ls'.flatMap fun q => S.map fun e => q ++ [e]) = pStep ls p ∧ acc.length + 4 * ls'.length ≤ 100 ∧
                  ρ = [some (.tup (rs.map ruleD), .sh), some (.lst (A.map ruleD), .ow), some (.tup (r.1.map D.str), .sh), some (.str [r.2], .sh), some (.lst (ls.map lineD), .sh), some (.str p, .sh), some (.lst (S.map D.str), k6), some (.lst (acc.map lineD), .ow), none, none]) _ _ ⟨ls, [], .ow, .inl rfl, rfl, fun _ h => h, by rw [hS]; rfl, by simp; omega, rfl⟩ ?_ ?_
                · rintro d ds ρ ⟨ls', acc, k6, h6, hd, hml, e3, hal, e⟩
                  subst e
                  cases ls' with
                  | nil => simp at hd
                  | cons q ls' =>
                    simp only [List.map_cons, List.cons.injEq] at hd
                    obtain ⟨rfl, rfl⟩ := hd
                    have hq5 := hql q (hml q (by simp))
                    simp only [List.length_cons] at hal
                    rcases h6 with rfl | rfl
                    · simp [lineD]
                      refine wp_lcM D.str (fun e => lineD (q ++ [e])) S (sz _ (by omega)) (fun e he => ?_) ?_
                      · have ad : gAdd (.tup (q.map D.str)) (.tup [.str e]) = some (.tup ((q ++ [e]).map D.str), false) := by rw [gAdd_tup (by simp; exact sz _ (by omega))]; simp
                        simp [ad, lineD]
                        exact ak_ ⟨by simp, rfl⟩
                      · have ad : gAdd (.lst (acc.map lineD)) (.lst (S.map fun e => lineD (q ++ [e]))) = some (.lst ((acc ++ S.map fun e => q ++ [e]).map lineD), true) := by rw [gAdd_lst (by simp; exact sz _ (by omega))]; simp
                        have ad' : gAdd (.lst (acc.map fun q => D.tup (q.map D.str))) (.lst (S.map fun e => lineD (q ++ [e]))) = some (.lst ((acc ++ S.map fun e => q ++ [e]).map lineD), true) := ad
                        simp [ad, -List.map_append, -List.map_map]
                        exact at_ ⟨ls', acc ++ S.map fun e => q ++ [e], .sh, .inr rfl, rfl, fun x hx => hml x (by simp [hx]), by simpa using e3, by simp; omega, rfl⟩
                    · simp [lineD]
                      refine wp_lcM D.str (fun e => lineD (q ++ [e])) S (sz _ (by omega)) (fun e he => ?_) ?_
                      · have ad : gAdd (.tup (q.map D.str)) (.tup [.str e]) = some (.tup ((q ++ [e]).map D.str), false) := by rw [gAdd_tup (by simp; exact sz _ (by omega))]; simp
                        simp [ad, lineD]
                        exact ak_ ⟨by simp, rfl⟩
                      · have ad : gAdd (.lst (acc.map lineD)) (.lst (S.map fun e => lineD (q ++ [e]))) = some (.lst ((acc ++ S.map fun e => q ++ [e]).map lineD), true) := by rw [gAdd_lst (by simp; exact sz _ (by omega))]; simp
                        have ad' : gAdd (.lst (acc.map fun q => D.tup (q.map D.str))) (.lst (S.map fun e => lineD (q ++ [e]))) = some (.lst ((acc ++ S.map fun e => q ++ [e]).map lineD), true) := ad
                        simp [ad, -List.map_append, -List.map_map]
                        exact at_ ⟨ls', acc ++ S.map fun e => q ++ [e], .sh, .inr rfl, rfl, fun x hx => hml x (by simp [hx]), by simpa using e3, by simp; omega, rfl⟩
                · rintro ρ ⟨ls', acc, k6, h6, hd, hml, e3, hal, e⟩
                  subst e
                  have hn : ls' = [] := by cases ls' with
                    | nil => rfl
                    | cons f fs' => simp at hd
                  subst hn
                  have e3' : acc = pStep ls p := by simpa using e3
                  simp
                  exact at_ ⟨R, P ++ [p], pStep ls p, .sh, rfl, fun x hx => hR4 x (by simp [hx]), parts_snoc pp p, .inr rfl, by simpa using hPR, e2, by rw [e3']⟩
            · have hc2' : ¬ (ls.length : Int) * (p.length : Int) < 5 := by rw [← Int.natCast_mul]; omega
              have cS : [D.str p] = S.map D.str := by rw [hS]; unfold someOf; rw [if_neg (fun h => hc2 h.2)]; rfl
              rcases hk with rfl | rfl
              · simp [gLen_s hpz, hc1', gl, gm, hc2']
                rw [cS]
                refine wp_forL (fun ds ρ => ∃ (ls' acc : List (List (List Cp))) (k6 : Kd), (k6 = .ow ∨ k6 = .sh) ∧ ds = ls'.map lineD ∧ (∀ q ∈ ls', q ∈ ls) ∧ acc ++ (ls'.flatMap fun q => S.map fun e => q ++ [e]) = pStep ls p ∧ acc.length + 4 * ls'.length ≤ 100 ∧
                  ρ = [some (.tup (rs.map ruleD), .sh), some (.lst (A.map ruleD), .ow), some (.tup (r.1.map D.str), .sh), some (.str [r.2], .sh), some (.lst (ls.map lineD), .sh), some (.str p, .sh), some (.lst (S.map D.str), k6), some (.lst (acc.map lineD), .ow), none, none]) _ _ ⟨ls, [], .ow, .inl rfl, rfl, fun _ h => h, by rw [hS]; rfl, by simp; omega, rfl⟩ ?_ ?_
                · rintro d ds ρ ⟨ls', acc, k6, h6, hd, hml, e3, hal, e⟩
                  subst e
                  cases ls' with
                  | nil => simp at hd
                  | cons q ls' =>
                    simp only [List.map_cons, List.cons.injEq] at hd
                    obtain ⟨rfl, rfl⟩ := hd
                    have hq5 := hql q (hml q (by simp))
                    simp only [List.length_cons] at hal
                    rcases h6 with rfl | rfl
                    · simp [lineD]
                      refine wp_lcM D.str (fun e => lineD (q ++ [e])) S (sz _ (by omega)) (fun e he => ?_) ?_
                      · have ad : gAdd (.tup (q.map D.str)) (.tup [.str e]) = some (.tup ((q ++ [e]).map D.str), false) := by rw [gAdd_tup (by simp; exact sz _ (by omega))]; simp
                        simp [ad, lineD]
                        exact ak_ ⟨by simp, rfl⟩
                      · have ad : gAdd (.lst (acc.map lineD)) (.lst (S.map fun e => lineD (q ++ [e]))) = some (.lst ((acc ++ S.map fun e => q ++ [e]).map lineD), true) := by rw [gAdd_lst (by simp; exact sz _ (by omega))]; simp
                        have ad' : gAdd (.lst (acc.map fun q => D.tup (q.map D.str))) (.lst (S.map fun e => lineD (q ++ [e]))) = some (.lst ((acc ++ S.map fun e => q ++ [e]).map lineD), true) := ad
                        simp [ad, -List.map_append, -List.map_map]
                        exact at_ ⟨ls', acc ++ S.map fun e => q ++ [e], .sh, .inr rfl, rfl, fun x hx => hml x (by simp [hx]), by simpa using e3, by simp; omega, rfl⟩
                    · simp [lineD]
                      refine wp_lcM D.str (fun e => lineD (q ++ [e])) S (sz _ (by omega)) (fun e he => ?_) ?_
                      · have ad : gAdd (.tup (q.map D.str)) (.tup [.str e]) = some (.tup ((q ++ [e]).map D.str), false) := by rw [gAdd_tup (by simp; exact sz _ (by omega))]; simp
                        simp [ad, lineD]
                        exact ak_ ⟨by simp, rfl⟩
                      · have ad : gAdd (.lst (acc.map lineD)) (.lst (S.map fun e => lineD (q ++ [e]))) = some (.lst ((acc ++ S.map fun e => q ++ [e]).map lineD), true) := by rw [gAdd_lst (by simp; exact sz _ (by omega))]; simp
                        have ad' : gAdd (.lst (acc.map fun q => D.tup (q.map D.str))) (.lst (S.map fun e => lineD (q ++ [e]))) = some (.lst ((acc ++ S.map fun e => q ++ [e]).map lineD), true) := ad
                        simp [ad, -List.map_append, -List.map_map]
                        exact at_ ⟨ls', acc ++ S.map fun e => q ++ [e], .sh, .inr rfl, rfl, fun x hx => hml x (by simp [hx]), by simpa using e3, by simp; omega, rfl⟩
                · rintro ρ ⟨ls', acc, k6, h6, hd, hml, e3, hal, e⟩
                  subst e
                  have hn : ls' = [] := by cases ls' with
                    | nil => rfl
                    | cons f fs' => simp at hd
                  subst hn
                  have e3' : acc = pStep ls p := by simpa using e3
                  simp
                  exact at_ ⟨R, P ++ [p], pStep ls p, .sh, rfl, fun x hx => hR4 x (by simp [hx]), parts_snoc pp p, .inr rfl, by simpa using hPR, e2, by rw [e3']⟩
              · simp [gLen_s hpz, hc1', gl, gm, hc2']
                rw [cS]
                refine wp_forL (fun ds ρ => ∃ (ls' acc : List (List (List Cp))) (k6 : Kd), (k6 = .ow ∨ k6 = .sh) ∧ ds = ls'.map lineD ∧ (∀ q ∈ ls', q ∈ ls) ∧ acc ++ (ls'.flatMap fun q => S.map fun e => q ++ [e]) = pStep ls p ∧ acc.length + 4 * ls'.length ≤ 100 ∧
                  ρ = [some (.tup (rs.map ruleD), .sh), some (.lst (A.map ruleD), .ow), some (.tup (r.1.map D.str), .sh), some (.str [r.2], .sh), some (.lst (ls.map lineD), .sh), some (.str p, .sh), some (.lst (S.map D.str), k6), some (.lst (acc.map lineD), .ow), none, none]) _ _ ⟨ls, [], .ow, .inl rfl, rfl, fun _ h => h, by rw [hS]; rfl, by simp; omega, rfl⟩ ?_ ?_
                · rintro d ds ρ ⟨ls', acc, k6, h6, hd, hml, e3, hal, e⟩
                  subst e
                  cases ls' with
                  | nil => simp at hd
                  | cons q ls' =>
                    simp only [List.map_cons, List.cons.injEq] at hd
                    obtain ⟨rfl, rfl⟩ := hd
                    have hq5 := hql q (hml q (by simp))
                    simp only [List.length_cons] at hal
                    rcases h6 with rfl | rfl
                    · simp [lineD]
                      refine wp_lcM D.str (fun e => lineD (q ++ [e])) S (sz _ (by omega)) (fun e he => ?_) ?_
                      · have ad : gAdd (.tup (q.map D.str)) (.tup [.str e]) = some (.tup ((q ++ [e]).map D.str), false) := by rw [gAdd_tup (by simp; exact sz _ (by omega))]; simp
                        simp [ad, lineD]
                        exact ak_ ⟨by simp, rfl⟩
                      · have ad : gAdd (.lst (acc.map lineD)) (.lst (S.map fun e => lineD (q ++ [e]))) = some (.lst ((acc ++ S.map fun e => q ++ [e]).map lineD), true) := by rw [gAdd_lst (by simp; exact sz _ (by omega))]; simp
                        have ad' : gAdd (.lst (acc.map fun q => D.tup (q.map D.str))) (.lst (S.map fun e => lineD (q ++ [e]))) = some (.lst ((acc ++ S.map fun e => q ++ [e]).map lineD), true) := ad
                        simp [ad, -List.map_append, -List.map_map]
                        exact at_ ⟨ls', acc ++ S.map fun e => q ++ [e], .sh, .inr rfl, rfl, fun x hx => hml x (by simp [hx]), by simpa using e3, by simp; omega, rfl⟩
                    · simp [lineD]
                      refine wp_lcM D.str (fun e => lineD (q ++ [e])) S (sz _ (by omega)) (fun e he => ?_) ?_
                      · have ad : gAdd (.tup (q.map D.str)) (.tup [.str e]) = some (.tup ((q ++ [e]).map D.str), false) := by rw [gAdd_tup (by simp; exact sz _ (by omega))]; simp
                        simp [ad, lineD]
                        exact ak_ ⟨by simp, rfl⟩
                      · have ad : gAdd (.lst (acc.map lineD)) (.lst (S.map fun e => lineD (q ++ [e]))) = some (.lst ((acc ++ S.map fun e => q ++ [e]).map lineD), true) := by rw [gAdd_lst (by simp; exact sz _ (by omega))]; simp
                        have ad' : gAdd (.lst (acc.map fun q => D.tup (q.map D.str))) (.lst (S.map fun e => lineD (q ++ [e]))) = some (.lst ((acc ++ S.map fun e => q ++ [e]).map lineD), true) := ad
                        simp [ad, -List.map_append, -List.map_map]
                        exact at_ ⟨ls', acc ++ S.map fun e => q ++ [e], .sh, .inr rfl, rfl, fun x hx => hml x (by simp [hx]), by simpa using e3, by simp; omega, rfl⟩
                · rintro ρ ⟨ls', acc, k6, h6, hd, hml, e3, hal, e⟩
                  subst e
                  have hn : ls' = [] := by cases ls' with
                    | nil => rfl
                    | cons f fs' => simp at hd
                  subst hn
                  have e3' : acc = pStep ls p := by simpa using e3
                  simp
                  exact at_ ⟨R, P ++ [p], pStep ls p, .sh, rfl, fun x hx => hR4 x (by simp [hx]), parts_snoc pp p, .inr rfl, by simpa using hPR, e2, by rw [e3']⟩
          · have hc1' : ¬ (1 : Int) < (p.length : Int) := by omega
            have cS : [D.str p] = S.map D.str := by rw [hS]; unfold someOf; rw [if_neg (fun h => hc1 h.1)]; rfl
            rcases hk with rfl | rfl
            · simp [gLen_s hpz, hc1']
              rw [cS]
              refine wp_forL (fun ds ρ => ∃ (ls' acc : List (List (List Cp))) (k6 : Kd), (k6 = .ow ∨ k6 = .sh) ∧ ds = ls'.map lineD ∧ (∀ q ∈ ls', q ∈ ls) ∧ acc ++ (ls'.flatMap fun q => S.map fun e => q ++ [e]) = pStep ls p ∧ acc.length + 4 * ls'.length ≤ 100 ∧
                ρ = [some (.tup (rs.map ruleD), .sh), some (.lst (A.map ruleD), .ow), some (.tup (r.1.map D.str), .sh), some (.str [r.2], .sh), some (.lst (ls.map lineD), .sh), some (.str p, .sh), some (.lst (S.map D.str), k6), some (.lst (acc.map lineD), .ow), none, none]) _ _ ⟨ls, [], .ow, .inl rfl, rfl, fun _ h => h, by rw [hS]; rfl, by simp; omega, rfl⟩ ?_ ?_
              · rintro d ds ρ ⟨ls', acc, k6, h6, hd, hml, e3, hal, e⟩
                subst e
                cases ls' with
                | nil => simp at hd
                | cons q ls' =>
                  simp only [List.map_cons, List.cons.injEq] at hd
                  obtain ⟨rfl, rfl⟩ := hd
                  have hq5 := hql q (hml q (by simp))
                  simp only [List.length_cons] at hal
                  rcases h6 with rfl | rfl
                  · simp [lineD]
                    refine wp_lcM D.str (fun e => lineD (q ++ [e])) S (sz _ (by omega)) (fun e he => ?_) ?_
                    · have ad : gAdd (.tup (q.map D.str)) (.tup [.str e]) = some (.tup ((q ++ [e]).map D.str), false) := by rw [gAdd_tup (by simp; exact sz _ (by omega))]; simp
                      simp [ad, lineD]
                      exact ak_ ⟨by simp, rfl⟩
                    · have ad : gAdd (.lst (acc.map lineD)) (.lst (S.map fun e => lineD (q ++ [e]))) = some (.lst ((acc ++ S.map fun e => q ++ [e]).map lineD), true) := by rw [gAdd_lst (by simp; exact sz _ (by omega))]; simp
                      have ad' : gAdd (.lst (acc.map fun q => D.tup (q.map D.str))) (.lst (S.map fun e => lineD (q ++ [e]))) = some (.lst ((acc ++ S.map fun e => q ++ [e]).map lineD), true) := ad
                      simp [ad, -List.map_append, -List.map_map]
                      exact at_ ⟨ls', acc ++ S.map fun e => q ++ [e], .sh, .inr rfl, rfl, fun x hx => hml x (by simp [hx]), by simpa using e3, by simp; omega, rfl⟩
                  · simp [lineD]
                    refine wp_lcM D.str (fun e => lineD (q ++ [e])) S (sz _ (by omega)) (fun e he => ?_) ?_
                    · have ad : gAdd (.tup (q.map D.str)) (.tup [.str e]) = some (.tup ((q ++ [e]).map D.str), false) := by rw [gAdd_tup (by simp; exact sz _ (by omega))]; simp
                      simp [ad, lineD]
                      exact ak_ ⟨by simp, rfl⟩
                    · have ad : gAdd (.lst (acc.map lineD)) (.lst (S.map fun e => lineD (q ++ [e]))) = some (.lst ((acc ++ S.map fun e => q ++ [e]).map lineD), true) := by rw [gAdd_lst (by simp; exact sz _ (by omega))]; simp
                      have ad' : gAdd (.lst (acc.map fun q => D.tup (q.map D.str))) (.lst (S.map fun e => lineD (q ++ [e]))) = some (.lst ((acc ++ S.map fun e => q ++ [e]).map lineD), true) := ad
                      simp [ad, -List.map_append, -List.map_map]
                      exact at_ ⟨ls', acc ++ S.map fun e => q ++ [e], .sh, .inr rfl, rfl, fun x hx => hml x (by simp [hx]), by simpa using e3, by simp; omega, rfl⟩
              · rintro ρ ⟨ls', acc, k6, h6, hd, hml, e3, hal, e⟩
                subst e
                have hn : ls' = [] := by cases ls' with
                  | nil => rfl
                  | cons f fs' => simp at hd
                subst hn
                have e3' : acc = pStep ls p := by simpa using e3
                simp
                exact at_ ⟨R, P ++ [p], pStep ls p, .sh, rfl, fun x hx => hR4 x (by simp [hx]), parts_snoc pp p, .inr rfl, by simpa using hPR, e2, by rw [e3']⟩
            · simp [gLen_s hpz, hc1']
              rw [cS]
              refine wp_forL (fun ds ρ => ∃ (ls' acc : List (List (List Cp))) (k6 : Kd), (k6 = .ow ∨ k6 = .sh) ∧ ds = ls'.map lineD ∧ (∀ q ∈ ls', q ∈ ls) ∧ acc ++ (ls'.flatMap fun q => S.map fun e => q ++ [e]) = pStep ls p ∧ acc.length + 4 * ls'.length ≤ 100 ∧
                ρ = [some (.tup (rs.map ruleD), .sh), some (.lst (A.map ruleD), .ow), some (.tup (r.1.map D.str), .sh), some (.str [r.2], .sh), some (.lst (ls.map lineD), .sh), some (.str p, .sh), some (.lst (S.map D.str), k6), some (.lst (acc.map lineD), .ow), none, none]) _ _ ⟨ls, [], .ow, .inl rfl, rfl, fun _ h => h, by rw [hS]; rfl, by simp; omega, rfl⟩ ?_ ?_
              · rintro d ds ρ ⟨ls', acc, k6, h6, hd, hml, e3, hal, e⟩
                subst e
                cases ls' with
                | nil => simp at hd
                | cons q ls' =>
                  simp only [List.map_cons, List.cons.injEq] at hd
                  obtain ⟨rfl, rfl⟩ := hd
                  have hq5 := hql q (hml q (by simp))
                  simp only [List.length_cons] at hal
                  rcases h6 with rfl | rfl
                  · simp [lineD]
                    refine wp_lcM D.str (fun e => lineD (q ++ [e])) S (sz _ (by omega)) (fun e he => ?_) ?_
                    · have ad : gAdd (.tup (q.map D.str)) (.tup [.str e]) = some (.tup ((q ++ [e]).map D.str), false) := by rw [gAdd_tup (by simp; exact sz _ (by omega))]; simp
                      simp [ad, lineD]
                      exact ak_ ⟨by simp, rfl⟩
                    · have ad : gAdd (.lst (acc.map lineD)) (.lst (S.map fun e => lineD (q ++ [e]))) = some (.lst ((acc ++ S.map fun e => q ++ [e]).map lineD), true) := by rw [gAdd_lst (by simp; exact sz _ (by omega))]; simp
                      have ad' : gAdd (.lst (acc.map fun q => D.tup (q.map D.str))) (.lst (S.map fun e => lineD (q ++ [e]))) = some (.lst ((acc ++ S.map fun e => q ++ [e]).map lineD), true) := ad
                      simp [ad, -List.map_append, -List.map_map]
                      exact at_ ⟨ls', acc ++ S.map fun e => q ++ [e], .sh, .inr rfl, rfl, fun x hx => hml x (by simp [hx]), by simpa using e3, by simp; omega, rfl⟩
                  · simp [lineD]
                    refine wp_lcM D.str (fun e => lineD (q ++ [e])) S (sz _ (by omega)) (fun e he => ?_) ?_
                    · have ad : gAdd (.tup (q.map D.str)) (.tup [.str e]) = some (.tup ((q ++ [e]).map D.str), false) := by rw [gAdd_tup (by simp; exact sz _ (by omega))]; simp
                      simp [ad, lineD]
                      exact ak_ ⟨by simp, rfl⟩
                    · have ad : gAdd (.lst (acc.map lineD)) (.lst (S.map fun e => lineD (q ++ [e]))) = some (.lst ((acc ++ S.map fun e => q ++ [e]).map lineD), true) := by rw [gAdd_lst (by simp; exact sz _ (by omega))]; simp
                      have ad' : gAdd (.lst (acc.map fun q => D.tup (q.map D.str))) (.lst (S.map fun e => lineD (q ++ [e]))) = some (.lst ((acc ++ S.map fun e => q ++ [e]).map lineD), true) := ad
                      simp [ad, -List.map_append, -List.map_map]
                      exact at_ ⟨ls', acc ++ S.map fun e => q ++ [e], .sh, .inr rfl, rfl, fun x hx => hml x (by simp [hx]), by simpa using e3, by simp; omega, rfl⟩
              · rintro ρ ⟨ls', acc, k6, h6, hd, hml, e3, hal, e⟩
                subst e
                have hn : ls' = [] := by cases ls' with
                  | nil => rfl
                  | cons f fs' => simp at hd
                subst hn
                have e3' : acc = pStep ls p := by simpa using e3
                simp
                exact at_ ⟨R, P ++ [p], pStep ls p, .sh, rfl, fun x hx => hR4 x (by simp [hx]), parts_snoc pp p, .inr rfl, by simpa using hPR, e2, by rw [e3']⟩
      · rintro ρ ⟨R, P, ls, kd, hd, hR4, pp, hk, hPR, e2, e⟩
        subst e
        have hn : R = [] := by cases R with
          | nil => rfl
          | cons f fs' => simp at hd
        subst hn
        have e2' : ls = partsOf r.1 := e2
        have hz : ls.length ≤ 4 := pp.n4
        have ad : gAdd (.lst (A.map ruleD)) (.lst (ls.map fun q => ruleD (q, r.2))) = some (.lst ((A ++ partR r).map ruleD), true) := by
          rw [gAdd_lst (by simp; exact sz _ (by omega)), e2']; simp [partR, Function.comp_def]
        rcases hk with rfl | rfl
        · simp
          refine wp_lcM lineD (fun q => ruleD (q, r.2)) ls (sz _ (by omega)) (fun q hq => by simp [lineD, ruleD]; exact ak_ ⟨rfl, rfl⟩) ?_
          simp [ad]
          exact at_ ⟨rs', A ++ partR r, rfl, fun x hx => hm x (by simp [hx]), by simpa using e1, by simp [partR, ← e2']; omega, by simp⟩
        · simp
          refine wp_lcM lineD (fun q => ruleD (q, r.2)) ls (sz _ (by omega)) (fun q hq => by simp [lineD, ruleD]; exact ak_ ⟨rfl, rfl⟩) ?_
          simp [ad]
          exact at_ ⟨rs', A ++ partR r, rfl, fun x hx => hm x (by simp [hx]), by simpa using e1, by simp [partR, ← e2']; omega, by simp⟩
  · rintro ρ ⟨rs', A, hd, hm, e1, hl, e⟩
    subst e
    have hn : rs' = [] := by cases rs' with
      | nil => rfl
      | cons f fs' => simp at hd
    subst hn
    simp [gTuple]
    exact okE (by rw [← e1]; simp)
end Law
namespace Law
open PySem Nu L2
theorem form_dl (f : Form) : f.d = .tup [.str f.letters, .tup (f.rules.map ruleD), edgeD f.edge, .int f.back, .int f.ahead] := rfl
theorem pd_rules {l : List Cp} {rs : List Rule} : ∀ {ds es : List D}, Pd (fun d v => ∃ (r : Rule) (c : Cp), r ∈ rs ∧ c ∈ l ∧ v = ruleD (r.1, c)) ds es → ∃ E : List Rule, es = E.map ruleD ∧ E.length = ds.length ∧ ∀ q ∈ E, q.2 ∈ l ∧ ∃ r ∈ rs, r.1 = q.1
  | _, _, .nil => ⟨[], rfl, rfl, by simp⟩
  | _, _, .cons ⟨r, c, hr, hc, e⟩ t => by
    obtain ⟨E, e2, h2, h3⟩ := pd_rules t
    refine ⟨(r.1, c) :: E, by rw [e, e2]; rfl, by simp [h2], fun q hq => ?_⟩
    rcases List.mem_cons.mp hq with rfl | hq
    · exact ⟨hc, r, hr, rfl⟩
    · exact h3 q hq
theorem mulE (n : Nat) (h : n ≤ 2) : gMulT (.tup [.str []]) (.int (n : Int)) = some (.tup (List.replicate n (.str [])), false) := by
  have : n = 0 ∨ n = 1 ∨ n = 2 := by omega
  rcases this with rfl | rfl | rfl <;> rfl
theorem otherwise_wp {b : Bag} {f : Form} {Q : Mr → Prop} (g : Good f) (h5 : f.rules.length ≤ 5) (h : ∀ (f' : Form) (b' : Bag), Good f' → Twin f f' → wpM (.ok f'.d false [b'.d]) Q) : wpM (m__law_otherwise [b.d, f.d]) Q := by
  have l2 := g.al.l2
  have l4 := g.al.l4
  have hb2 := g.bk
  have ha2 := g.ah
  have sz : ∀ n : Nat, n ≤ 1000 → n ≤ PySem.sizeLine := fun n h => by rw [size16]; omega
  have i0 : ∀ a b : D, atI [a, b] 0 = some a := fun _ _ => rfl
  refine wp_body ?_
  simp [sem__law_otherwise, form_dl]
  refine draw_wp 4 rfl (by decide) (by decide) fun r b1 hr => ?_
  by_cases h0 : r = 0
  · simp [h0]
    refine wp_lcA (fun ρ => ∃ b : Bag, ρ = [some (b.d, .pin), some (f.d, .sh), some (.str f.letters, .sh), some (.tup (f.rules.map ruleD), .sh), some (edgeD f.edge, .sh), some (.int f.back, .sh), some (.int f.ahead, .sh), some (.int 0, .sh), none, none, none, none, none, none, none, none]) (fun d v => ∃ (r : Rule) (c : Cp), r ∈ f.rules ∧ c ∈ f.letters ∧ v = ruleD (r.1, c)) ⟨b1, rfl⟩ (by simp; exact sz _ (by omega)) ?_ ?_
    · rintro d hd ρ ⟨b, rfl⟩
      obtain ⟨q, hq, rfl⟩ := List.mem_map.mp hd
      simp [ruleD, i0]
      refine oneS_wp (by omega) (by omega) fun c b3 hc => ?_
      simp
      exact ak_ ⟨_, rfl, ⟨q, c, hq, hc, rfl⟩, _, rfl⟩
    · rintro es ρ hp ⟨b, rfl⟩
      obtain ⟨E, rfl, hl, hE⟩ := pd_rules hp
      simp at hl
      have ad : gAdd (.tup (f.rules.map ruleD)) (.tup (E.map ruleD)) = some (.tup ((f.rules ++ E).map ruleD), false) := by rw [gAdd_tup (by simp; exact sz _ (by omega))]; simp
      obtain ⟨T, hT⟩ : ∃ T, T = f.rules ++ E := ⟨_, rfl⟩
      rw [← hT] at ad
      have ct : cutD (T.map ruleD) none (some 12) = T.map ruleD := by
        rw [show cutD (T.map ruleD) none (some 12) = (T.map ruleD).take 12 from cut_to _ 12, List.take_of_length_le (by rw [hT]; simp; omega)]
      simp [gTuple, ad, gSl, ct]
      have tw := way0 (f := f) (E := E) fun q hq => (hE q hq).2
      rw [← hT] at tw
      exact h (ruF f T) b (ruF_good g (by rw [hT]; simp; omega) fun q hq => by
        rw [hT] at hq
        rcases List.mem_append.mp hq with hq | hq
        · exact g.ru q hq
        · obtain ⟨h1, r, hr, e⟩ := hE q hq
          exact ⟨by rw [← e]; exact (g.ru r hr).len, h1, by rw [← e]; exact (g.ru r hr).pt⟩) tw
  by_cases h1 : r = 1
  · have pk := parted_ok f.rules g.rl fun r hr => ⟨by rw [(g.ru r hr).len]; unfold Form.wide; omega, fun p hp => Nat.le_trans (nd_len ((g.ru r hr).pt p hp).1 ((g.ru r hr).pt p hp).2) l4⟩
    obtain ⟨T, hT⟩ : ∃ T, T = f.rules.flatMap partR := ⟨_, rfl⟩
    rw [← hT] at pk
    have gl : gLen [.tup (T.map ruleD)] = some (.int T.length, false) := by simp [gLen]
    simp [h1, pk, gl, toAv]
    by_cases hl : T.length < 13
    · have hl' : (T.length : Int) < 13 := by omega
      simp [hl']
      have tw := way1 g
      rw [← hT] at tw
      exact h (ruF f T) b1 (ruF_good g (by omega) fun q hq => by
        rw [hT] at hq
        obtain ⟨r, hr, hq⟩ := List.mem_flatMap.mp hq
        exact part_ok g (g.ru r hr) hq) tw
    · have hl' : ¬ (T.length : Int) < 13 := by omega
      simp [hl']
      exact h f b1 g ⟨rfl, rfl, rfl, rfl, fun _ _ _ => rfl⟩
  by_cases h2 : r = 2
  · have hch : chars f.letters = f.letters.map fun c => D.str [c] := rfl
    simp [h2, hch]
    refine wp_lcM (fun c : Cp => D.str [c]) (fun c => lineD (stayR f c).1) f.letters (sz _ (by omega)) (fun c _ => ?_) ?_
    · have a1 : gAdd (.tup (List.replicate f.back (.str []))) (.tup [.str [c]]) = some (.tup (List.replicate f.back (.str []) ++ [.str [c]]), false) := gAdd_tup (by simp; exact sz _ (by omega))
      have a2 : gAdd (.tup (List.replicate f.back (.str []) ++ [.str [c]])) (.tup (List.replicate f.ahead (.str []))) = some (lineD (stayR f c).1, false) := by
        rw [gAdd_tup (by simp; exact sz _ (by omega))]; simp [lineD, stayR]
      simp [mulE f.back hb2, mulE f.ahead ha2, a1, a2]
      exact ak_ ⟨rfl, rfl⟩
    · simp [gTuple]
      refine wp_lcM (fun c : Cp => lineD (stayR f c).1) (fun c => ruleD (stayR f c)) f.letters (sz _ (by omega)) (fun c _ => ?_) ?_
      · have ix : gIx (lineD (stayR f c).1) (.int (f.back : Int)) = some (.str [c], false) := by
          unfold lineD
          rw [gIx_t, Nu.atI_nat]
          simp [stayR]
        simp [ix]
        exact ak_ ⟨rfl, rfl⟩
      · have ad : gAdd (.tup (f.rules.map ruleD)) (.tup (f.letters.map fun c => ruleD (stayR f c))) = some (.tup ((f.rules ++ f.letters.map (stayR f)).map ruleD), false) := by
          rw [gAdd_tup (by simp; exact sz _ (by omega))]; simp [Function.comp_def]
        obtain ⟨T, hT⟩ : ∃ T, T = f.rules ++ f.letters.map (stayR f) := ⟨_, rfl⟩
        rw [← hT] at ad
        simp [gTuple, ad]
        have tw := way2 g
        rw [← hT] at tw
        exact h (ruF f T) b1 (ruF_good g (by rw [hT]; simp; omega) fun q hq => by
          rw [hT] at hq
          rcases List.mem_append.mp hq with hq | hq
          · exact g.ru q hq
          · obtain ⟨c, hc, rfl⟩ := List.mem_map.mp hq
            exact stay_ok g hc) tw
  have h3 : r = 3 := by omega
  simp [h3]
  refine wp_lcM ruleD (fun r => ruleD (fullR f.letters r)) f.rules (sz _ (by omega)) (fun r hr => ?_) ?_
  · have hw := (g.ru r hr).len
    have hw5 : f.wide ≤ 5 := by unfold Form.wide; omega
    simp [ruleD]
    refine wp_lcM D.str (fun p => D.str (if p = [] then f.letters else p)) r.1 (sz _ (by omega)) (fun p hp => ?_) ?_
    · have p4 := Nat.le_trans (nd_len ((g.ru r hr).pt p hp).1 ((g.ru r hr).pt p hp).2) l4
      by_cases hp0 : p = []
      · subst hp0
        have e0 : asT (.str [], false) = some [] := asT_s (sz 0 (by omega))
        simp [e0]
        exact ak_ ⟨by simp, rfl⟩
      · simp [asT_s (sz p.length (by omega)), hp0]
        exact ak_ ⟨by simp [hp0], rfl⟩
    · simp [gTuple]
      exact ak_ ⟨by simp [fullR, Function.comp_def], rfl⟩
  · have e : (f.rules.map fun r => ruleD (fullR f.letters r)) = (f.rules.map (fullR f.letters)).map ruleD := by simp [Function.comp_def]
    obtain ⟨T, hT⟩ : ∃ T, T = f.rules.map (fullR f.letters) := ⟨_, rfl⟩
    rw [e, ← hT]
    simp [gTuple]
    have tw := way3 g
    rw [← hT] at tw
    exact h (ruF f T) b1 (ruF_good g (by rw [hT]; simp; omega) fun q hq => by
      rw [hT] at hq
      obtain ⟨r, hr, rfl⟩ := List.mem_map.mp hq
      exact full_ok g (g.ru r hr)) tw
end Law
namespace Law
open PySem Nu L2
theorem chain_of_ok (l : List Cp) (fs : List Form) (g : GoodC l fs) : m__law_chain_of [.str l, .lst (fs.map Form.d)] = .ok (chainO l fs) true [] := by
  have hln := g.ln
  have hl : fs.length ≤ PySem.sizeLine := by rw [size16]; omega
  refine eqM (wp_body ?_)
  simp [sem__law_chain_of]
  refine wp_lcM Form.d Form.o fs hl (fun f hf => by simp [pass_ok f (g.gd f hf).1]; exact ak_ ⟨rfl, rfl⟩) ?_
  simp [gTuple, chain_init_ok l fs g]
  exact okM
def lay (l : List Cp) : Nat → List (List Cp)
  | 0 => [[]]
  | n + 1 => longer (lay l n) l
def allW (l : List Cp) : Nat → List (List Cp)
  | 0 => [[]]
  | n + 1 => allW l n ++ lay l (n + 1)
theorem lay_len (l : List Cp) (hl : l.length ≤ 4) : ∀ n, (lay l n).length ≤ 4 ^ n
  | 0 => by simp [lay]
  | n + 1 => by
    rw [lay, longer_len, Nat.pow_succ]
    exact Nat.mul_le_mul (lay_len l hl n) hl
theorem lay_mem (l : List Cp) : ∀ n, ∀ w ∈ lay l n, w.length = n ∧ Over l w
  | 0, w, h => by simp [lay] at h; subst h; exact ⟨rfl, by intro c hc; simp at hc⟩
  | n + 1, w, h => by
    obtain ⟨v, hv, hw⟩ := List.mem_flatMap.mp h
    obtain ⟨c, hc, rfl⟩ := List.mem_map.mp hw
    obtain ⟨h1, h2⟩ := lay_mem l n v hv
    refine ⟨by simp [h1], fun d hd => ?_⟩
    rcases List.mem_append.mp hd with hd | hd
    · exact h2 d hd
    · rw [List.mem_singleton.mp hd]; exact hc
theorem allW_len (l : List Cp) (hl : l.length ≤ 4) : ∀ n, n ≤ 5 → (allW l n).length ≤ 1400 * (n + 1)
  | 0, _ => by simp [allW]
  | n + 1, h => by
    have := allW_len l hl n (by omega)
    have h2 := lay_len l hl (n + 1)
    have h3 : 4 ^ (n + 1) ≤ 4 ^ 5 := Nat.pow_le_pow_right (by decide) h
    rw [allW, List.length_append]
    omega
theorem allW_mem (l : List Cp) : ∀ n, ∀ w ∈ allW l n, w.length ≤ n ∧ Over l w
  | 0, w, h => by simp [allW] at h; subst h; exact ⟨Nat.le_refl _, by intro c hc; simp at hc⟩
  | n + 1, w, h => by
    rcases List.mem_append.mp h with h | h
    · obtain ⟨h1, h2⟩ := allW_mem l n w h
      exact ⟨by omega, h2⟩
    · obtain ⟨h1, h2⟩ := lay_mem l (n + 1) w h
      exact ⟨by omega, h2⟩
theorem all_ok (l : List Cp) (hl : l.length ≤ 4) (n : Nat) (hn : n ≤ 5) {i : Int} (hi : i = n) : m__law_all [.str l, .int i] = .ok (.lst ((allW l n).map D.str)) true [] := by
  subst hi
  have hr : rOk (n : Int) = true := rOk_small (by omega) (by omega)
  refine eqM (wp_body ?_)
  simp [sem__law_all, hr]
  refine wp_for (fun j ρ => j ≤ n ∧ ρ = [some (.str l, .sh), some (.int n, .sh), some (.lst ((lay l j).map D.str), .ow), some (.lst ((allW l j).map D.str), .ow), none]) _ 0 _ ⟨Nat.zero_le _, rfl⟩ ?_ ?_
  · rintro j hj ρ ⟨_, e⟩
    subst e
    have hj' : j < n := by simpa [intsD_eq] using hj
    have h1 := lay_len l hl j
    have h2 := lay_len l hl (j + 1)
    have h3 : 4 ^ (j + 1) ≤ 4 ^ 5 := Nat.pow_le_pow_right (by decide) (by omega)
    have h3' : 4 ^ j ≤ 4 ^ 5 := Nat.pow_le_pow_right (by decide) (by omega)
    have h4 := allW_len l hl j (by omega)
    have lo := longer_ok (lay l j) l (by omega) hl fun w hw => by rw [(lay_mem l j w hw).1]; omega
    have lo' : m__law_longer [.lst ((lay l j).map D.str), .str l] = .ok (.lst ((lay l (j + 1)).map D.str)) true [] := lo
    have ad : gAdd (.lst ((allW l j).map D.str)) (.lst ((lay l (j + 1)).map D.str)) = some (.lst ((allW l (j + 1)).map D.str), true) := by
      rw [gAdd_lst (by simp; rw [size16]; omega)]; simp [allW]
    rw [Nat.zero_add]
    simp [lo', ad, toAv]
    exact at_ ⟨by omega, rfl⟩
  · rintro ρ ⟨_, e⟩
    subst e
    have : 0 + (intsD 0 n).length = n := by simp [intsD_eq]
    rw [this]
    simp
    exact okM
@[simp] theorem cls_ch (l : List Cp) (fs : List Form) : clsOf (chainO l fs) = some "Chain" := rfl
@[simp] theorem tb_ceq : tab_eq_2_Chain "Chain" = some ⟨[], ms_Chain___eq__, m_Chain___eq__⟩ := rfl
@[simp] theorem mt_ccall (l : List Cp) (fs : List Form) : cAt tab_CALL_2_Chain (chainO l fs) = some ⟨[], ms_Chain___call__, m_Chain___call__⟩ := rfl
@[simp] theorem mt_cring (l : List Cp) (fs : List Form) : mAt tab_ring_2_Chain "ring" (chainO l fs) = some ⟨[], ms_Chain_ring, m_Chain_ring⟩ := rfl
@[simp] theorem mt_step (l : List Cp) (fs : List Form) : mAt tab_step_3_Chain "step" (chainO l fs) = some ⟨[], ms_Chain_step, m_Chain_step⟩ := rfl
theorem py_eq {d : D} {p P : PyData} (e : pyOf d = some p) (h : toPy d = some P) : p = P := by
  unfold pyOf at e
  rw [h, Option.bind_some] at e
  split at e
  · cases e; rfl
  · cases e
theorem cform_data (l : List Cp) (fs : List Form) (g : ∀ f ∈ fs, Good f) : dataB 6 (.tup [.str l, .tup (fs.map Form.d)]) = true := by
  refine dataB_tup fun x hx => ?_
  simp only [List.mem_cons, List.not_mem_nil, or_false] at hx
  rcases hx with rfl | rfl
  · simp [dataB]
  · refine dataB_tup fun z hz => ?_
    obtain ⟨f, hf, rfl⟩ := List.mem_map.mp hz
    exact form_data4 f (g f hf)
theorem forms_py (fs : List Form) (g : ∀ f ∈ fs, Good f) : ∃ ps, toPys (fs.map Form.d) = some ps := by
  induction fs with
  | nil => exact ⟨[], by simp [toPys]⟩
  | cons f fs ih =>
    obtain ⟨p, e, _⟩ := data_py 4 f.d (form_data4 f (g f (by simp)))
    obtain ⟨ps, e2⟩ := ih fun q hq => g q (by simp [hq])
    exact ⟨p :: ps, by simp [toPys, e, e2]⟩
theorem ceq_val (l : List Cp) (fs ts : List Form) (g : ∀ f ∈ fs, Good f) (h : ∀ f ∈ ts, Good f) : ∃ v, gEq (.tup [.str l, .tup (fs.map Form.d)]) (.tup [.str l, .tup (ts.map Form.d)]) = some (.bl v, false) ∧ gEq (.lst (ts.map Form.d)) (.lst (fs.map Form.d)) = some (.bl v, false) := by
  obtain ⟨ps, e1⟩ := forms_py fs g
  obtain ⟨qs, e2⟩ := forms_py ts h
  obtain ⟨a, ea, _⟩ := pyOf_data (cform_data l fs g) (by decide)
  obtain ⟨b, eb, _⟩ := pyOf_data (cform_data l ts h) (by decide)
  have dl : ∀ fs : List Form, (∀ f ∈ fs, Good f) → dataB 5 (.lst (fs.map Form.d)) = true := fun fs g => dataB_lst fun z hz => by obtain ⟨f, hf, rfl⟩ := List.mem_map.mp hz; exact form_data4 f (g f hf)
  obtain ⟨c, ec, _⟩ := pyOf_data (dl ts h) (by decide)
  obtain ⟨d, ed, _⟩ := pyOf_data (dl fs g) (by decide)
  have q1 := py_eq ea (P := .tuple [.str (toStr l), .tuple ps]) (by simp [toPy, toPys, e1])
  have q2 := py_eq eb (P := .tuple [.str (toStr l), .tuple qs]) (by simp [toPy, toPys, e2])
  have q3 := py_eq ec (P := .list qs) (by simp [toPy, e2])
  have q4 := py_eq ed (P := .list ps) (by simp [toPy, e1])
  subst q1 q2 q3 q4
  refine ⟨PyData.eqvAll ps qs, ?_, ?_⟩
  · simp [gEq, ea, eb, PyData.eqv, PyData.eqvAll]
  · simp [gEq, ec, ed, PyData.eqv, PySem.W.eqvAll_comm qs ps]
theorem cne_val (k l : List Cp) (hkl : k ≠ l) (fs ts : List Form) (g : ∀ f ∈ fs, Good f) (h : ∀ f ∈ ts, Good f) : gEq (.tup [.str k, .tup (fs.map Form.d)]) (.tup [.str l, .tup (ts.map Form.d)]) = some (.bl false, false) := by
  obtain ⟨ps, e1⟩ := forms_py fs g
  obtain ⟨qs, e2⟩ := forms_py ts h
  obtain ⟨a, ea, _⟩ := pyOf_data (cform_data k fs g) (by decide)
  obtain ⟨b, eb, _⟩ := pyOf_data (cform_data l ts h) (by decide)
  have q1 := py_eq ea (P := .tuple [.str (toStr k), .tuple ps]) (by simp [toPy, toPys, e1])
  have q2 := py_eq eb (P := .tuple [.str (toStr l), .tuple qs]) (by simp [toPy, toPys, e2])
  subst q1 q2
  have hne : (toStr k == toStr l) = false := by
    rw [beq_eq_false_iff_ne]
    exact fun e => hkl (toStr_inj e)
  simp [gEq, ea, eb, PyData.eqv, PyData.eqvAll, hne]
theorem ceq_ok (k l : List Cp) (fs ts : List Form) {v : Bool} (e : gEq (.tup [.str k, .tup (fs.map Form.d)]) (.tup [.str l, .tup (ts.map Form.d)]) = some (.bl v, false)) : m_Chain___eq__ [chainO k fs, chainO l ts] = .ok (.bl v) false [] := by
  refine eqM (wp_body ?_)
  simp [sem_Chain___eq__, o_isCh, e]
  exact okM
def revL (f : Form) : Form := ⟨f.letters.reverse, f.rules, f.edge, f.back, f.ahead⟩
theorem rev_alph {l : List Cp} (h : Alph l) : Alph l.reverse := ⟨by simpa using h.l2, by simpa using h.l4, (by unfold List.Nodup; rw [List.pairwise_reverse]; exact h.nd.imp Ne.symm), fun c hc => h.al c (by simpa using hc)⟩
theorem revL_good {f : Form} (g : Good f) : Good (revL f) :=
  ⟨rev_alph g.al, g.rl, fun r hr => ⟨(g.ru r hr).len, by simpa [revL] using (g.ru r hr).mr, fun p hp => ⟨((g.ru r hr).pt p hp).1, fun c hc => by simpa [revL] using ((g.ru r hr).pt p hp).2 c hc⟩⟩, fun c hc => by simpa [revL] using g.ed c hc, g.bk, g.ah⟩
theorem rev_ne {l : List Cp} (h : Alph l) : l.reverse ≠ l := by
  intro e
  have l2 := h.l2
  have e0 : l.reverse[0]? = l[0]? := by rw [e]
  rw [List.getElem?_reverse (by omega)] at e0
  have h1 : l.length - 1 - 0 < l.length := by omega
  have h2 : 0 < l.length := by omega
  rw [List.getElem?_eq_getElem h1, List.getElem?_eq_getElem h2] at e0
  exact (List.pairwise_iff_getElem.mp h.nd) 0 (l.length - 1 - 0) h2 h1 (by omega) (Option.some.inj e0).symm
theorem mems_nil : ∀ fs : List Form, (mems fs []).map D.str = List.replicate fs.length (.str [])
  | [] => rfl
  | f :: fs => by
    have : tells f [] = [] := List.eq_nil_of_length_eq_zero (by rw [tells_len]; simp)
    simp [mems, this, mems_nil fs, mem, List.replicate_succ]
theorem tellsC_nil (fs : List Form) : tellsC fs [] = [] := List.eq_nil_of_length_eq_zero (by rw [tellsC_len]; simp)
theorem ite_P {c : Prop} [Decidable c] (P : Int → Prop) (a b : Int) (h : P (if c then a else b)) : if c then P a else P b := by
  split <;> simp_all
theorem right_wp {b : Bag} {Q : Mr → Prop} (h : ∀ b' : Bag, wpM (.ok (.bl true) false [b'.d]) Q) : wpM (m__law_right [b.d]) Q := by
  refine wp_body ?_
  simp [sem__law_right]
  refine signs_wp fun l b1 al => ?_
  have l2 := al.l2
  have l4 := al.l4
  simp
  refine form_wp (w := 1) rfl (by decide) al fun f1 b2 g1 hl1 hb1 ha1 hr1 => ?_
  simp
  refine form_wp (w := 0) rfl (by decide) al fun f2 b3 g2 hl2 hb2 ha2 hr2 => ?_
  simp [w_lcC, w_lcN]
  refine otherwise_wp g1 hr1 fun t1 b4 k1 w1 => ?_
  simp [w_lcC, w_lcN]
  refine otherwise_wp g2 hr2 fun t2 b5 k2 w2 => ?_
  have gd : ∀ f ∈ [f1, f2], Good f := by
    intro f hf
    simp only [List.mem_cons, List.not_mem_nil, or_false] at hf
    rcases hf with rfl | rfl
    · exact g1
    · exact g2
  have kd2 : ∀ f ∈ [t1, t2], Good f := by
    intro f hf
    simp only [List.mem_cons, List.not_mem_nil, or_false] at hf
    rcases hf with rfl | rfl
    · exact k1
    · exact k2
  have pw16 : l.length ^ 2 ≤ 256 := Nat.le_trans (Nat.pow_le_pow_left l4 2) (by decide)
  have sm : ∀ a b : Form, a.back ≤ 1 → a.ahead ≤ 1 → b.back ≤ 0 → b.ahead ≤ 0 → l.length ^ (sumB [a, b] + sumA [a, b]) ≤ 256 := fun a b h1 h2 h3 h4 => by
    refine Nat.le_trans (Nat.pow_le_pow_right (by omega) (show sumB [a, b] + sumA [a, b] ≤ 2 by simp [sumB, sumA]; omega)) pw16
  have gf : GoodC l [f1, f2] := by
    refine ⟨al, fun f hf => ⟨gd f hf, ?_⟩, by simp, sm f1 f2 hb1 ha1 hb2 ha2⟩
    simp only [List.mem_cons, List.not_mem_nil, or_false] at hf
    rcases hf with rfl | rfl
    · exact hl1
    · exact hl2
  have gt : GoodC l [t1, t2] := by
    refine ⟨al, fun f hf => ⟨kd2 f hf, ?_⟩, by simp, sm t1 t2 (by rw [w1.bk]; exact hb1) (by rw [w1.ah]; exact ha1) (by rw [w2.bk]; exact hb2) (by rw [w2.ah]; exact ha2)⟩
    simp only [List.mem_cons, List.not_mem_nil, or_false] at hf
    rcases hf with rfl | rfl
    · rw [w1.le]; exact hl1
    · rw [w2.le]; exact hl2
  have tw : Twins l [f1, f2] [t1, t2] := .cons w1 g1 hl1 (.cons w2 g2 hl2 .nil)
  have c1 := chain_of_ok l [f1, f2] gf
  have c2 := chain_of_ok l [t1, t2] gt
  simp only [List.map_cons, List.map_nil] at c1 c2
  obtain ⟨v, ev, ev2⟩ := ceq_val l [f1, f2] [t1, t2] gd kd2
  have ce := ceq_ok l l [f1, f2] [t1, t2] ev
  simp only [List.map_cons, List.map_nil] at ev2
  have nv : gNe (.bl v) (.bl v) = some (.bl false, false) := gNe_self 1 (by simp [dataB])
  have i0 : ∀ a b : D, atI [a, b] 0 = some a := fun _ _ => rfl
  have i1 : ∀ a b : D, atI [a, b] 1 = some b := fun _ _ => rfl
  obtain ⟨n, hn, hn5⟩ : ∃ n : Nat, (if (l.length : Int) = 2 then (5 : Int) else 3) = n ∧ n ≤ 5 := by
    by_cases h2 : (l.length : Int) = 2
    · exact ⟨5, by rw [if_pos h2]; rfl, by omega⟩
    · exact ⟨3, by rw [if_neg h2]; rfl, by omega⟩
  have lz : l.length ≤ PySem.sizeLine := by rw [size16]; omega
  have al1 := all_ok l l4 n hn5 rfl
  obtain ⟨X, hX⟩ : ∃ X, X = chainO l [f1, f2] := ⟨_, rfl⟩
  obtain ⟨Y, hY⟩ : ∃ Y, Y = chainO l [t1, t2] := ⟨_, rfl⟩
  simp [w_lcC, w_lcN, c1, c2, i0, i1, ce, ev2, nv, gLen_s lz, toAv, noTmp]
  refine ite_P (fun i => wpM (m__law_all [.str l, .int i]) _) 5 3 ?_
  rw [hn]
  have aw := allW_len l l4 n hn5
  simp [al1, toAv, noTmp]
  refine wp_lcA (fun ρ => ∃ b : Bag, ρ = [some (b.d, .pin), some (.str l, .sh), some (.lst [f1.d, f2.d], .sh), some (.lst [t1.d, t2.d], .sh), some (.lst [chainO l [f1, f2], chainO l [t1, t2]], .ow), none, none, none, none, none, none, none, none, none, none, none, none, none]) (fun _ v => ∃ z : List Cp, z.length ≤ 20 ∧ (∀ c ∈ z, c ∈ l) ∧ v = D.str z) ⟨b5, rfl⟩ (by simp [intsD_eq]; rw [size16]; omega) ?_ ?_
  · rintro d hd ρ ⟨b, rfl⟩
    simp
    refine row_wp (far := 20) rfl (by decide) (by omega) (by omega) fun z b6 hz hzm => ?_
    simp
    exact ak_ ⟨_, rfl, ⟨z, hz, hzm, rfl⟩, _, rfl⟩
  rintro es ρ hp ⟨b6, rfl⟩
  obtain ⟨rows, rfl, hrl, hrm⟩ : ∃ rows : List (List Cp), es = rows.map D.str ∧ rows.length = (intsD 0 4).length ∧ ∀ z ∈ rows, z.length ≤ 20 ∧ ∀ c ∈ z, c ∈ l := by
    clear h
    generalize intsD 0 4 = ds at hp
    induction hp with
    | nil => exact ⟨[], rfl, rfl, by simp⟩
    | cons hx _ ih =>
      obtain ⟨z, h1, h2, rfl⟩ := hx
      obtain ⟨rs, rfl, h3, h4⟩ := ih
      refine ⟨z :: rs, rfl, by simp [h3], fun y hy => ?_⟩
      rcases List.mem_cons.mp hy with rfl | hy
      · exact ⟨h1, h2⟩
      · exact h4 y hy
  simp [intsD_eq] at hrl
  have ad : gAdd (.lst ((allW l n).map D.str)) (.lst (rows.map D.str)) = some (.lst ((allW l n ++ rows).map D.str), true) := by
    rw [gAdd_lst (by simp; rw [size16]; omega)]; simp
  obtain ⟨W, hW⟩ : ∃ W, W = allW l n ++ rows := ⟨_, rfl⟩
  have Wm : ∀ z ∈ W, z.length ≤ 20 ∧ Over l z := by
    intro z hz
    rw [hW] at hz
    rcases List.mem_append.mp hz with hz | hz
    · obtain ⟨a, b⟩ := allW_mem l n z hz
      exact ⟨by omega, b⟩
    · exact hrm z hz
  rw [← hW] at ad
  simp [ad]
  refine wp_forA (fun ρ => ∃ k4 : Kd, (k4 = .ow ∨ k4 = .sh) ∧ ρ = [some (b6.d, .pin), some (.str l, .sh), some (.lst [f1.d, f2.d], .sh), some (.lst [t1.d, t2.d], .sh), some (.lst [chainO l [f1, f2], chainO l [t1, t2]], k4), some (.lst (W.map D.str), .sh), none, none, none, none, none, none, none, none, none, none, none, none]) ⟨.ow, .inl rfl, rfl⟩ ?_ ?_
  · rintro d hd ρ ⟨k4, hk4, e⟩
    subst e
    obtain ⟨z, hz, rfl⟩ := List.mem_map.mp hd
    obtain ⟨zl, zo⟩ := Wm z hz
    have ov : over l z = true := over_iff.mpr zo
    have o1 := out_ok [f1, f2] gd z (by omega)
    simp only [List.map_cons, List.map_nil] at o1
    have q1 := chain_call_ok l [f1, f2] gf z (by omega) ov
    have q2 := chain_call_ok l [t1, t2] gt z (by omega) ov
    rw [outs_twin tw z zo] at q2
    have n1 : ∀ y : List Cp, gNe (.lst [.str y, .str y]) (.lst [.str y, .str y]) = some (.bl false, false) := fun y => gNe_self 2 (dataB_lst fun d hd => by simp at hd; rw [hd]; simp [dataB])
    have p1 := pass_ok t1 k1
    have q3 := Law.call_ok t1 k1 z (by omega) (by rw [w1.le, hl1]; exact ov)
    rw [out1_twin w1 g1 (by rw [hl1]; exact zo)] at q3
    have o2 := out_ok [f1] (fun f hf => by rw [List.mem_singleton.mp hf]; exact g1) z (by omega)
    have o2' : m__law_out [.lst [f1.d], .str z] = .ok (.str (out1 f1 z)) false [] := o2
    have s1 : gSl (.lst [f1.d, f2.d]) none (some 1) = some (.lst [f1.d], true) := rfl
    have n2 : ∀ y : List Cp, gNe (.str y) (.str y) = some (.bl false, false) := fun y => gNe_self 1 (by simp [dataB])
    rcases hk4 with rfl | rfl
    · simp [o1, i0, i1, q1, q2, n1, p1, q3, s1, o2', n2, toAv, noTmp]
      by_cases h0 : z = []
      · subst h0
        simp [w_lcC, w_lcN, w_forC, w_forN, chars]
        exact at_ ⟨.sh, .inr rfl, rfl⟩
      · have r1 := round_ok [f1, f2] gd z (by omega) h0
        simp only [List.map_cons, List.map_nil] at r1
        have r2 := chain_ring_ok l [f1, f2] gf z (by omega) ov h0
        have r3 := chain_ring_ok l [t1, t2] gt z (by omega) ov h0
        rw [rings_twin tw z zo] at r3
        simp [h0, r1, r2, r3, w_lcC, w_lcN, n1, toAv, noTmp]
        refine wp_for (fun j ρ => ρ = [some (b6.d, .pin), some (.str l, .sh), some (.lst [f1.d, f2.d], .sh), some (.lst [t1.d, t2.d], .sh), some (.lst [chainO l [f1, f2], chainO l [t1, t2]], .sh), some (.lst (W.map D.str), .sh), some (.str z, .sh), some (.str (rings [f1, f2] z), .sh), some (.lst [.tup ((mems [f1, f2] (z.take j)).map D.str), .tup ((mems [f1, f2] (z.take j)).map D.str)], .ow), some (.lst [.str (tellsC [f1, f2] (z.take j)), .str (tellsC [f1, f2] (z.take j))], .ow), none, none, none, none, none, none, none, none]) _ 0 _ ?_ ?_ ?_
        · rw [List.take_zero, tellsC_nil, mems_nil]
          rfl
        · rintro j hj ρ e
          subst e
          have hj' : j < z.length := by simpa [chars] using hj
          have cj : (chars z)[j] = D.str [z[j]] := by simp [chars]
          rw [Nat.zero_add]
          obtain ⟨x, hx⟩ : ∃ x, x = z.take j := ⟨_, rfl⟩
          have xo : Over l x := fun c hc => zo c (by rw [hx] at hc; exact List.mem_of_mem_take hc)
          have tk : z.take (j + 1) = x ++ [z[j]] := by rw [hx]; exact (List.take_append_getElem hj').symm
          have yo : Over l (x ++ [z[j]]) := fun c hc => zo c (by rw [← tk] at hc; exact List.mem_of_mem_take hc)
          have st1 := step_ok l [f1, f2] gd x z[j]
          have st2 := step_ok l [t1, t2] kd2 x z[j]
          have tn1 := tellsC_news [f1, f2] x [z[j]] (by simp)
          have tn2 := tellsC_news [t1, t2] x [z[j]] (by simp)
          rw [(mems_twin tw x xo).1, (mems_twin tw _ yo).1] at st2
          rw [(mems_twin tw x xo).2, (mems_twin tw _ yo).2, tn1] at tn2
          have nn := List.append_cancel_left tn2
          rw [← nn] at st2
          have Nl : (tellsC [f1, f2] (x ++ [z[j]])).length ≤ 100 := by rw [tellsC_len, ← tk]; simp; omega
          obtain ⟨N, hN⟩ : ∃ N, N = news [f1, f2] x [z[j]] := ⟨_, rfl⟩
          obtain ⟨M, hM⟩ : ∃ M, M = (mems [f1, f2] (x ++ [z[j]])).map D.str := ⟨_, rfl⟩
          obtain ⟨T, hT⟩ : ∃ T, T = tellsC [f1, f2] x := ⟨_, rfl⟩
          obtain ⟨S, hS⟩ : ∃ S, S = (mems [f1, f2] x).map D.str := ⟨_, rfl⟩
          rw [← hN, ← hM, ← hS] at st1 st2
          rw [← hN, ← hT] at tn1
          rw [tn1] at Nl
          have ad2 : gAdd (.str T) (.str N) = some (.str (T ++ N), false) := gAdd_str (by rw [← List.length_append, size16]; omega)
          have x0 : ixN 2 0 = some 0 := rfl
          have x1 : ixN 2 1 = some 1 := rfl
          have n3 : gNe (.tup M) (.tup M) = some (.bl false, false) := gNe_self 2 (dataB_tup fun d hd => by rw [hM] at hd; obtain ⟨q, _, rfl⟩ := List.mem_map.mp hd; simp [dataB])
          rw [← hx, ← hT, ← hS]
          simp [cj, show intsD 0 2 = [D.int 0, D.int 1] from rfl, w_forC, w_forN, i0, i1, st1, st2, setPair, x0, x1, ad2, n2, n3, toAv, noTmp]
          exact at_ (by rw [tk, tn1, hM])
        · rintro ρ e
          subst e
          simp
          exact at_ ⟨.sh, .inr rfl, rfl⟩
    · simp [o1, i0, i1, q1, q2, n1, p1, q3, s1, o2', n2, toAv, noTmp]
      by_cases h0 : z = []
      · subst h0
        simp [w_lcC, w_lcN, w_forC, w_forN, chars]
        exact at_ ⟨.sh, .inr rfl, rfl⟩
      · have r1 := round_ok [f1, f2] gd z (by omega) h0
        simp only [List.map_cons, List.map_nil] at r1
        have r2 := chain_ring_ok l [f1, f2] gf z (by omega) ov h0
        have r3 := chain_ring_ok l [t1, t2] gt z (by omega) ov h0
        rw [rings_twin tw z zo] at r3
        simp [h0, r1, r2, r3, w_lcC, w_lcN, n1, toAv, noTmp]
        refine wp_for (fun j ρ => ρ = [some (b6.d, .pin), some (.str l, .sh), some (.lst [f1.d, f2.d], .sh), some (.lst [t1.d, t2.d], .sh), some (.lst [chainO l [f1, f2], chainO l [t1, t2]], .sh), some (.lst (W.map D.str), .sh), some (.str z, .sh), some (.str (rings [f1, f2] z), .sh), some (.lst [.tup ((mems [f1, f2] (z.take j)).map D.str), .tup ((mems [f1, f2] (z.take j)).map D.str)], .ow), some (.lst [.str (tellsC [f1, f2] (z.take j)), .str (tellsC [f1, f2] (z.take j))], .ow), none, none, none, none, none, none, none, none]) _ 0 _ ?_ ?_ ?_
        · rw [List.take_zero, tellsC_nil, mems_nil]
          rfl
        · rintro j hj ρ e
          subst e
          have hj' : j < z.length := by simpa [chars] using hj
          have cj : (chars z)[j] = D.str [z[j]] := by simp [chars]
          rw [Nat.zero_add]
          obtain ⟨x, hx⟩ : ∃ x, x = z.take j := ⟨_, rfl⟩
          have xo : Over l x := fun c hc => zo c (by rw [hx] at hc; exact List.mem_of_mem_take hc)
          have tk : z.take (j + 1) = x ++ [z[j]] := by rw [hx]; exact (List.take_append_getElem hj').symm
          have yo : Over l (x ++ [z[j]]) := fun c hc => zo c (by rw [← tk] at hc; exact List.mem_of_mem_take hc)
          have st1 := step_ok l [f1, f2] gd x z[j]
          have st2 := step_ok l [t1, t2] kd2 x z[j]
          have tn1 := tellsC_news [f1, f2] x [z[j]] (by simp)
          have tn2 := tellsC_news [t1, t2] x [z[j]] (by simp)
          rw [(mems_twin tw x xo).1, (mems_twin tw _ yo).1] at st2
          rw [(mems_twin tw x xo).2, (mems_twin tw _ yo).2, tn1] at tn2
          have nn := List.append_cancel_left tn2
          rw [← nn] at st2
          have Nl : (tellsC [f1, f2] (x ++ [z[j]])).length ≤ 100 := by rw [tellsC_len, ← tk]; simp; omega
          obtain ⟨N, hN⟩ : ∃ N, N = news [f1, f2] x [z[j]] := ⟨_, rfl⟩
          obtain ⟨M, hM⟩ : ∃ M, M = (mems [f1, f2] (x ++ [z[j]])).map D.str := ⟨_, rfl⟩
          obtain ⟨T, hT⟩ : ∃ T, T = tellsC [f1, f2] x := ⟨_, rfl⟩
          obtain ⟨S, hS⟩ : ∃ S, S = (mems [f1, f2] x).map D.str := ⟨_, rfl⟩
          rw [← hN, ← hM, ← hS] at st1 st2
          rw [← hN, ← hT] at tn1
          rw [tn1] at Nl
          have ad2 : gAdd (.str T) (.str N) = some (.str (T ++ N), false) := gAdd_str (by rw [← List.length_append, size16]; omega)
          have x0 : ixN 2 0 = some 0 := rfl
          have x1 : ixN 2 1 = some 1 := rfl
          have n3 : gNe (.tup M) (.tup M) = some (.bl false, false) := gNe_self 2 (dataB_tup fun d hd => by rw [hM] at hd; obtain ⟨q, _, rfl⟩ := List.mem_map.mp hd; simp [dataB])
          rw [← hx, ← hT, ← hS]
          simp [cj, show intsD 0 2 = [D.int 0, D.int 1] from rfl, w_forC, w_forN, i0, i1, st1, st2, setPair, x0, x1, ad2, n2, n3, toAv, noTmp]
          exact at_ (by rw [tk, tn1, hM])
        · rintro ρ e
          subst e
          simp
          exact at_ ⟨.sh, .inr rfl, rfl⟩
  · rintro ρ ⟨k4, hk4, e⟩
    subst e
    have gr : ∀ f ∈ [revL f1, revL f2], Good f := by
      intro f hf
      simp only [List.mem_cons, List.not_mem_nil, or_false] at hf
      rcases hf with rfl | rfl
      · exact revL_good g1
      · exact revL_good g2
    have gc : GoodC l.reverse [revL f1, revL f2] := by
      refine ⟨rev_alph al, fun f hf => ⟨gr f hf, ?_⟩, by simp, ?_⟩
      · simp only [List.mem_cons, List.not_mem_nil, or_false] at hf
        rcases hf with rfl | rfl
        · simp [revL, hl1]
        · simp [revL, hl2]
      · rw [List.length_reverse]; exact sm (revL f1) (revL f2) hb1 ha1 hb2 ha2
    have lr : gRev (.str l) = some (.str l.reverse, false) := by simp [gRev, lz]
    have fs1 : ∀ f : Form, gSl f.d (some 1) none = some (.tup [.tup (f.rules.map ruleD), edgeD f.edge, .int f.back, .int f.ahead], false) := fun f => rfl
    have fa : ∀ f : Form, f.letters = l → gAdd (.tup [.str l.reverse]) (.tup [.tup (f.rules.map ruleD), edgeD f.edge, .int f.back, .int f.ahead]) = some ((revL f).d, false) := fun f hf => by
      rw [gAdd_tup (by simp; rw [size16]; omega)]; simp [form_dl, revL, hf]
    have cm := chain_of_ok l.reverse [revL f1, revL f2] gc
    simp only [List.map_cons, List.map_nil] at cm
    have cn := ceq_ok l.reverse l [revL f1, revL f2] [f1, f2] (cne_val l.reverse l (rev_ne al) _ _ gr gd)
    rcases hk4 with rfl | rfl
    · simp [w_lcC, w_lcN, lr, fs1, fa f1 hl1, fa f2 hl2, cm, toAv, noTmp]
      refine row_wp (far := 12) rfl (by decide) (by omega) (by omega) fun z b7 hz hzm => ?_
      have ov : over l z = true := over_iff.mpr hzm
      have ovr : over l.reverse z = true := over_iff.mpr fun c hc => by simpa using hzm c hc
      have q1 := chain_call_ok l [f1, f2] gf z (by omega) ov
      have q2 := chain_call_ok l.reverse [revL f1, revL f2] gc z (by omega) ovr
      have eo : outs [revL f1, revL f2] z = outs [f1, f2] z := rfl
      rw [eo] at q2
      have e1 : ∀ y : List Cp, gEq (.str y) (.str y) = some (.bl true, false) := fun y => gEq_self 1 (by simp [dataB])
      simp [q1, q2, i0, e1, cn, toAv, noTmp]
      exact h b7
    · simp [w_lcC, w_lcN, lr, fs1, fa f1 hl1, fa f2 hl2, cm, toAv, noTmp]
      refine row_wp (far := 12) rfl (by decide) (by omega) (by omega) fun z b7 hz hzm => ?_
      have ov : over l z = true := over_iff.mpr hzm
      have ovr : over l.reverse z = true := over_iff.mpr fun c hc => by simpa using hzm c hc
      have q1 := chain_call_ok l [f1, f2] gf z (by omega) ov
      have q2 := chain_call_ok l.reverse [revL f1, revL f2] gc z (by omega) ovr
      have eo : outs [revL f1, revL f2] z = outs [f1, f2] z := rfl
      rw [eo] at q2
      have e1 : ∀ y : List Cp, gEq (.str y) (.str y) = some (.bl true, false) := fun y => gEq_self 1 (by simp [dataB])
      simp [q1, q2, i0, e1, cn, toAv, noTmp]
      exact h b7
theorem law_pure (ns : List Int) (hn : ns.length ≤ 63) : m_law [.scr (ns.map D.int)] = .ok (.bl true) false [] := by
  obtain ⟨k, hk, hk5⟩ := turns ns.length 5 (by decide)
  have hk' : (if (if (5 : Int) < ns.length then (5 : Int) else ns.length) > 2 then (if (5 : Int) < ns.length then (5 : Int) else ns.length) else 2) = k := hk
  have hro : rOk (k : Int) = true := rOk_small (by omega) (by omega)
  simp only [gt_iff_lt] at hk'
  refine eqM (wp_body ?_)
  simp [sem_law, noTmp, toAv, hk', hro]
  refine wp_lcA (fun ρ => ρ = [some (.scr (ns.map D.int), .sh), none]) (fun _ v => v = D.bl true) rfl (by simp; rw [size16]; omega) ?_ ?_
  · rintro d hd ρ e
    subst e
    obtain ⟨j, _, rfl⟩ := List.mem_map.mp hd
    simp
    refine bag_wp fun b => ?_
    simp
    refine right_wp fun b' => ?_
    simp
    exact ak_ ⟨_, rfl, rfl, rfl⟩
  · rintro es ρ hp e
    subst e
    simp [pd_true hp]
    exact okM
end Law
open PySem PySem.W PySem.Calls PyProof.Rows in
theorem PySem.Challenge.cw_nearundone_k22_whole_rules_written_other_holds : PySem.Challenge.rw_nearundone_k22_whole_rules_written_other.Holds := by
  w_on; o_law
  refine HandSHeadRun.head_any (r := Law.Rw) (q := view Law.Rw.prog [69]) (H := Law.hk.hook) (ob := Law.ob) (M := 20000) (loose := Law.names) (d := HandSHeadRun.topDef Law.Rw.prog 69) (kwd := []) Law.ob_eq
    (by kernel_rfl) (fun s => by kernel_rfl) Law.run (by kernel_rfl) (by kernel_rfl) (by kernel_rfl) (by rfl) (by first | assumption | decide +kernel) (by decide +kernel) ⟨rfl, rfl, rfl, rfl, rfl, by decide +kernel⟩ ?hw ?hc
  case hw => w_witness2
  case hc =>
    refine Nu.walk_n (l := PySem.Challenge.rw_nearundone_k22_whole_rules_written_other) (n := 63) (k := 10) (x := "_law_cells") rfl (by decide) (by kernel_rfl) ⟨⟨rfl, by decide, by decide⟩, rfl⟩ Law.law_pure ?_
    intro w mg fa h Y G hmg0
    obtain ⟨K, KX, c⟩ := Y
    have e : (HandSHeadRun.topDef Law.Rw.prog 69).name = ("law" : PySem.Str) := by kernel_rfl
    rw [e] at hmg0
    obtain ⟨fd, hb, hF⟩ := Law.facts (P := PySem.Challenge.rw_nearundone_k22_whole_rules_written_other.prog) (w := w) KX G hmg0 c
    exact ⟨K, fd, KX, hb, hF⟩
