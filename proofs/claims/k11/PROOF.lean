import PyProof.Rows.All
import Wide.All
import OpenK.AllK
import Wide.FinOn
import HandS.ForMost
import HandS.ForExc
import HandS.Flow
import HandS.Head0
import HandS.Head1
import HandS.Head2
import HandS.HeadEnd
import HandS.HeadHook1
import HandS.HeadHook2
import HandS.HeadNt
import PySem.Challenge.RW_stillstruck_k11_whole_scripts_put_togeth
import HandS.Property
import HandS.IsInst
import HandS.Wide
import HandS.Strs
import HandS.SortInts
import HandS.Defaults
import HandS.Conv
import HandS.TupAny
import HandS.Zip
import HandS.NoneIn
import HandS.Lambda
import HandS.DictComp
import KE.KDictKeyed
import KE.KOpsOwn
import HandS.SlotsOwn
import KE.GoesEnum
import HandS.Star
import HandS.Iter
import HandS.ExcInit
import HandS.ExcValue
import HandS.ExcField
import HandS.ExcIs
import KE.KExcIs
import PyProof.ReprRoads
import PyProof.CallFns
import HandS.ClsMeth
import HandS.EndTab
import HandS.HeadHook4
import HandS.TupMul
import HandS.NamedTupSort
import PyProof.Rows.IntBool
import HandS.ExcOwn
import HandS.MakeKw
import HandS.OwnEq
import HandS.Text
import HandS.Call
import HandS.SetFor
import PyProof.Rows.SortShellAny
import PyProof.ReprLen
import PyProof.P3Eq
import KE.IntTextLaws
set_option Elab.async false
set_option linter.all false
set_option maxRecDepth 100000
set_option maxHeartbeats 4000000
set_option autoImplicit false
/-! the hook of a law's head: facts as a list of truths, defs as data; no more of the layer (the run of a top is to stand first in a joined text) -/
namespace DL
open PySem PySem.Spec PyProof.Rows L2
def tbOf (tr fa : List Str) : Str → Option Bool := fun t => if t ∈ tr then some true else if t ∈ fa then some false else none
def tb_kit_ty_int (cs : List Str) := tbOf ["int", "bool"] ((["NoneType", "str", "list", "tuple", "dict"] : List Str) ++ cs)
def tb_kit_ty_bool (cs : List Str) := tbOf ["bool"] ((["NoneType", "int", "str", "list", "tuple", "dict"] : List Str) ++ cs)
def tb_kit_two_list_tuple (cs : List Str) := tbOf ["list", "tuple"] ((["NoneType", "bool", "int", "str", "dict"] : List Str) ++ cs)
def tb_kit_own_Rhythm (cs : List Str) := tbOf ["Rhythm"] ((["NoneType", "bool", "int", "str", "list", "tuple", "dict"] : List Str) ++ cs)
def tb_kit_own_Script (cs : List Str) := tbOf ["Script"] ((["NoneType", "bool", "int", "str", "list", "tuple", "dict"] : List Str) ++ cs)
def tb_kit_ty_str (cs : List Str) := tbOf ["str"] ((["NoneType", "bool", "int", "list", "tuple", "dict"] : List Str) ++ cs)
def tb_kit_ty_tuple (cs : List Str) := tbOf ["tuple"] ((["NoneType", "bool", "int", "str", "list", "dict"] : List Str) ++ cs)
section
variable {K : PySem.W.Frag}
def propB (K : PySem.W.Frag) (C : Addr) (f : Str) : Bool := He.eqO (PySem.W.findIn K (.ref C) f) (some (some (.ref (He.ma K C f)))) && (He.eqO (PySem.W.specialIn K (.ref (He.ma K C f)) "__get__") (some (some (.builtin "property.__get__"))) && (decide (PySem.W.takesIn K (.ref (He.ma K C f)) = some true) && (match PySem.W.recIn K (He.ma K C f) "property" with
    | some (.ref _ :: _) => true
    | _ => false)))
def insB (K : PySem.W.Frag) (x : Str) : Bool := (He.Fa.cls x).ok K && (He.eqO (PySem.W.findIn K (.ref (He.ga K x)) "__class__") (some (some (.builtin "object.__class__"))) && (He.eqO (PySem.W.specialIn K (.builtin "object.__class__") "__get__") (some (some (.builtin "getset_descriptor.__get__"))) && (decide (PySem.W.takesIn K (.builtin "object.__class__") = some true) && decide (PySem.W.mroIn K (He.ga K x) (.type "object") = some true))))
def kitB (K : PySem.W.Frag) (cs : List Str) (an : Value → Option Bool) (tb : Str → Option Bool) : Bool := ((["NoneType", "bool", "int", "str", "list", "tuple", "dict"] : List String).all fun t => match tb (Str.ofString t) with
    | some b => decide (an (.type t) = some b)
    | none => true) && (cs.all fun c => match tb c with
    | some b => decide (an (.ref (He.ga K c)) = some b)
    | none => true)
def obsB (fb : PySem.W.Frag → List Bool) (fn : List He5.DefA) (K : PySem.W.Frag) : He.AlD := ((fb K).all id && fn.all fun d => d.ok K, fn.map fun d => He5.fnA K (d.at_ K))
def SaysB (fb : PySem.W.Frag → List Bool) (fn : List He5.DefA) (K : PySem.W.Frag) : Prop := obsB fb fn K = He5.valA fn
/-- a def of the top, of no default -/
def defA (a : PySem.W.Frag → Addr) (x qual : Str) (st : Stmt) : He5.DefA := ⟨a, x, qual, defArgs st, defBody st, defScope st, [], []⟩
/-- the i-th default of the def at a -/
def dflA (a : PySem.W.Frag → Addr) (i : Nat) (K : PySem.W.Frag) : Addr := match K.lookup (a K) with
  | some ⟨_, _, .func fd, _⟩ => (match fd.defaults with
    | .ref T => (match K.lookup T with
      | some ⟨_, _, .seq its _, _⟩ => (match its[i]? with
        | some (.ref b) => b
        | _ => 0)
      | _ => 0)
    | _ => 0)
  | _ => 0
def defAD (a : PySem.W.Frag → Addr) (x qual : Str) (st : Stmt) (dv : List He.Dv) : He5.DefA := ⟨a, x, qual, defArgs st, defBody st, defScope st, dv, []⟩
def callB (K : PySem.W.Frag) (C g : Addr) : Bool := He.eqO (PySem.W.findIn K (.ref C) "__call__") (some (some (.ref g))) && (PySem.W.isFn K (.ref g) && PySem.W.fnIn K g)
end
end DL
set_option Elab.async false
set_option linter.all false
set_option maxRecDepth 100000
set_option maxHeartbeats 400000
set_option autoImplicit false
/-! the hook of a law's head, over objects found level by level, without looking for those found twice -/
namespace DL
open PySem PySem.Spec PyProof.Rows L2
def nextF (g : Addr → Option Obj) (as : List Addr) : List Addr := as.flatMap fun a => match g a with
  | some o => (He.refsD o).filter fun b => !(Nat.beq b mainGlobals)
  | none => []
def lvlF (g : Addr → Option Obj) : Nat → List Addr → List Addr
  | 0, as => as
  | n + 1, as => as ++ lvlF g n (nextF g as)
def asF (g : Addr → Option Obj) (n : Nat) : List Addr := lvlF g n [mainGlobals] ++ [cStatics]
def obsBF (n : Nat) (fb : PySem.W.Frag → List Bool) (fn : List He5.DefA) (g : Addr → Option Obj) : He.AlD := obsB fb fn (He.frG g (asF g n))
def hookBF (n : Nat) (fb : PySem.W.Frag → List Bool) (fn : List He5.DefA) : PySem.W.Hook where
  α := He.AlD
  obs := fun s => obsBF n fb fn s.heap.get?
  val := fun _ => He5.valA fn
  says := fun _ h => ∃ K : PySem.W.Frag, K.In h ∧ SaysB fb fn K
  of := fun _ _ e => ⟨_, He.frG_in, e⟩
  keeps := fun _ _ _ ⟨K, hK, c⟩ k => ⟨K, PySem.W.Frag.In.keeps hK k, c⟩
theorem obsBF_eq {n : Nat} {fb : PySem.W.Frag → List Bool} {fn : List He5.DefA} {g : Addr → Option Obj} {s : Shared} (h : ∀ a, g a = s.heap.get? a) : obsBF n fb fn g = (hookBF n fb fn).obs s := by
  have e : g = s.heap.get? := funext h
  rw [e] <;> rfl
end DL
set_option Elab.async false
set_option linter.all false
set_option maxRecDepth 100000
set_option maxHeartbeats 4000000
set_option autoImplicit false
/-! printed by tools/fin.py: the top is run -/
namespace DL
open PySem PySem.Spec PyProof.Rows L2
def topS (i : Nat) : Stmt := PySem.Challenge.pw_stillstruck_k11_whole_scripts_put_togeth.main.body.getD i (.Pass ⟨0, 0, 0, 0⟩)
abbrev cs : List Str := ["Rhythm", "Script"]
abbrev s__law_mixed : Stmt := topS 44
abbrev s__law_take : Stmt := topS 45
abbrev s__law_pick : Stmt := topS 46
abbrev s__law_day : Stmt := topS 48
abbrev s__law_rhythm : Stmt := topS 47
abbrev s__law_plain_step : Stmt := topS 49
abbrev s__law_steps : Stmt := topS 50
abbrev s__law_flat : Stmt := topS 53
abbrev s_is_list : Stmt := topS 11
abbrev s_is_number : Stmt := topS 10
abbrev s_is_step_number : Stmt := topS 29
abbrev s_is_plain_step : Stmt := topS 30
abbrev s_is_add : Stmt := topS 31
abbrev s_is_since : Stmt := topS 32
abbrev s_is_step : Stmt := topS 33
abbrev s_flat : Stmt := topS 34
abbrev s_common : Stmt := topS 13
abbrev s_Rhythm_size : Stmt := inClass (topS 16) 2
abbrev s_common_round : Stmt := topS 17
abbrev s_round_of : Stmt := topS 35
abbrev s_need_few : Stmt := topS 36
abbrev s_Script___init__ : Stmt := inClass (topS 40) 0
abbrev s_are_different : Stmt := topS 12
abbrev s_repeats : Stmt := topS 14
abbrev s_least_form : Stmt := topS 15
abbrev s_Rhythm___init__ : Stmt := inClass (topS 16) 0
abbrev s__law_real0 : Stmt := topS 51
abbrev s__law_real1 : Stmt := topS 51
abbrev s__law_real2 : Stmt := topS 51
abbrev s__law_made : Stmt := topS 52
abbrev s_Script___add__ : Stmt := inClass (topS 40) 7
abbrev s_behind_all0 : Stmt := topS 39
abbrev s_Rhythm___contains__ : Stmt := inClass (topS 16) 5
abbrev s_holds : Stmt := topS 37
abbrev s_behind1 : Stmt := topS 38
abbrev s_behind_all1 : Stmt := topS 39
abbrev s_behind2 : Stmt := topS 38
abbrev s_behind_all2 : Stmt := topS 39
abbrev s_Script___call__ : Stmt := inClass (topS 40) 6
abbrev s__law_fates_of : Stmt := topS 54
abbrev s_Rhythm___and__ : Stmt := inClass (topS 16) 9
abbrev s_Rhythm___eq__ : Stmt := inClass (topS 16) 6
abbrev s_Script___eq__ : Stmt := inClass (topS 40) 8
abbrev s__law_begun : Stmt := topS 43
abbrev s_law : Stmt := topS 55
def fbs : PySem.W.Frag → List Bool := fun K => [
  callB K (He.ga K "Script") (He.ma K (He.ga K "Script") "__call__"),
  (He.Fa.cls "Rhythm").ok K,
  (He.Fa.cls "Script").ok K,
  PySem.W.selfFirst K (He.ga K "Rhythm"),
  PySem.W.selfFirst K (He.ga K "Script"),
  (He.Fa.free "abs").ok K,
  (He.Fa.free "all").ok K,
  (He.Fa.free "bool").ok K,
  (He.Fa.free "enumerate").ok K,
  (He.Fa.free "int").ok K,
  (He.Fa.free "isinstance").ok K,
  (He.Fa.free "len").ok K,
  (He.Fa.free "list").ok K,
  (He.Fa.free "min").ok K,
  (He.Fa.free "range").ok K,
  (He.Fa.free "set").ok K,
  (He.Fa.free "sorted").ok K,
  (He.Fa.free "str").ok K,
  (He.Fa.free "tuple").ok K,
  (He.Fa.glo "Rhythm").ok K,
  (He.Fa.glo "Script").ok K,
  (He.Fa.glo "_law_begun").ok K,
  (He.Fa.glo "_law_day").ok K,
  (He.Fa.glo "_law_fates_of").ok K,
  (He.Fa.glo "_law_flat").ok K,
  (He.Fa.glo "_law_made").ok K,
  (He.Fa.glo "_law_mixed").ok K,
  (He.Fa.glo "_law_pick").ok K,
  (He.Fa.glo "_law_plain_step").ok K,
  (He.Fa.glo "_law_real").ok K,
  (He.Fa.glo "_law_rhythm").ok K,
  (He.Fa.glo "_law_steps").ok K,
  (He.Fa.glo "_law_take").ok K,
  (He.Fa.glo "are_different").ok K,
  (He.Fa.glo "behind").ok K,
  (He.Fa.glo "behind_all").ok K,
  (He.Fa.glo "common").ok K,
  (He.Fa.glo "common_round").ok K,
  (He.Fa.glo "flat").ok K,
  (He.Fa.glo "holds").ok K,
  (He.Fa.glo "is_add").ok K,
  (He.Fa.glo "is_list").ok K,
  (He.Fa.glo "is_number").ok K,
  (He.Fa.glo "is_plain_step").ok K,
  (He.Fa.glo "is_since").ok K,
  (He.Fa.glo "is_step").ok K,
  (He.Fa.glo "is_step_number").ok K,
  (He.Fa.glo "least_form").ok K,
  (He.Fa.glo "need_few").ok K,
  (He.Fa.glo "repeats").ok K,
  (He.Fa.glo "round_of").ok K,
  (He.Fa.int "FARTHEST" 100).ok K,
  (He.Fa.int "MOST_ROUND" 84).ok K,
  (He.Fa.int "MOST_SIZE" 3000).ok K,
  (He.Fa.int "MOST_STEPS" 12).ok K,
  (He.Fa.meth "Rhythm" "__and__").ok K,
  (He.Fa.meth "Rhythm" "__contains__").ok K,
  (He.Fa.meth "Rhythm" "__eq__").ok K,
  (He.Fa.meth "Script" "__add__").ok K,
  (He.Fa.meth "Script" "__eq__").ok K,
  (He.Fa.mkr "Rhythm").ok K,
  (He.Fa.mkr "Script").ok K,
  (He.eqO (PySem.W.findIn K (.ref (He.ga K "Script")) "__ne__") (some (some (.builtin "object.__ne__"))) && decide (PySem.W.mroIn K (He.ga K "Script") (.type "object") = some true)),
  (He.Fa.noat "Rhythm" "own_form").ok K,
  (He.Fa.noat "Script" "own_steps").ok K,
  He.eqO (PySem.W.findIn K (.ref (He.ga K "Rhythm")) (PySem.dunder (Operator.BitAnd).info.2)) (some (some (.ref (He.ma K (He.ga K "Rhythm") "__and__")))),
  He.eqO (PySem.W.findIn K (.ref (He.ga K "Script")) (PySem.dunder (Operator.Add).info.2)) (some (some (.ref (He.ma K (He.ga K "Script") "__add__")))),
  propB K (He.ga K "Rhythm") "size",
  (He.Fa.str "ADD" "add").ok K,
  (He.Fa.str "FROM" "from").ok K,
  (He.Fa.str "KEEP" "keep").ok K,
  (He.Fa.str "SHIFT" "shift").ok K,
  (He.Fa.str "SINCE" "since").ok K,
  (He.Fa.str "STRIKE" "strike").ok K,
  (He.Fa.str "UNTIL" "until").ok K,
  cs.all (insB K),
  kitB K cs (fun t => PySem.W.kitOne K t (.ref (He.ga K "Rhythm"))) (tb_kit_own_Rhythm cs),
  kitB K cs (fun t => PySem.W.kitOne K t (.ref (He.ga K "Script"))) (tb_kit_own_Script cs),
  kitB K cs (fun t => PySem.W.kitAny K t [.type "list", .type "tuple"]) (tb_kit_two_list_tuple cs),
  kitB K cs (fun t => PySem.W.kitOne K t (.type "bool")) (tb_kit_ty_bool cs),
  kitB K cs (fun t => PySem.W.kitOne K t (.type "int")) (tb_kit_ty_int cs),
  kitB K cs (fun t => PySem.W.kitOne K t (.type "str")) (tb_kit_ty_str cs),
  kitB K cs (fun t => PySem.W.kitOne K t (.type "tuple")) (tb_kit_ty_tuple cs),
  (He.Fa.glo "law").ok K]
def fns : List He5.DefA := [
  defA (fun K => (He.ga K "_law_mixed")) "_law_mixed" "_law_mixed" s__law_mixed,
  defA (fun K => (He.ga K "_law_take")) "_law_take" "_law_take" s__law_take,
  defA (fun K => (He.ga K "_law_pick")) "_law_pick" "_law_pick" s__law_pick,
  defA (fun K => (He.ga K "_law_day")) "_law_day" "_law_day" s__law_day,
  defA (fun K => (He.ga K "_law_rhythm")) "_law_rhythm" "_law_rhythm" s__law_rhythm,
  defA (fun K => (He.ga K "_law_plain_step")) "_law_plain_step" "_law_plain_step" s__law_plain_step,
  defA (fun K => (He.ga K "_law_steps")) "_law_steps" "_law_steps" s__law_steps,
  defA (fun K => (He.ga K "_law_flat")) "_law_flat" "_law_flat" s__law_flat,
  defA (fun K => (He.ga K "is_list")) "is_list" "is_list" s_is_list,
  defA (fun K => (He.ga K "is_number")) "is_number" "is_number" s_is_number,
  defA (fun K => (He.ga K "is_step_number")) "is_step_number" "is_step_number" s_is_step_number,
  defA (fun K => (He.ga K "is_plain_step")) "is_plain_step" "is_plain_step" s_is_plain_step,
  defA (fun K => (He.ga K "is_add")) "is_add" "is_add" s_is_add,
  defA (fun K => (He.ga K "is_since")) "is_since" "is_since" s_is_since,
  defA (fun K => (He.ga K "is_step")) "is_step" "is_step" s_is_step,
  defA (fun K => (He.ga K "flat")) "flat" "flat" s_flat,
  defA (fun K => (He.ga K "common")) "common" "common" s_common,
  defA (fun K => (He5.wf K (He.ga K "Rhythm") "property" "size")) "size" "Rhythm.size" s_Rhythm_size,
  defA (fun K => (He.ga K "common_round")) "common_round" "common_round" s_common_round,
  defA (fun K => (He.ga K "round_of")) "round_of" "round_of" s_round_of,
  defA (fun K => (He.ga K "need_few")) "need_few" "need_few" s_need_few,
  defAD (fun K => (He.ma K (He.ga K "Script") "__init__")) "__init__" "Script.__init__" s_Script___init__ [.adr (dflA (fun K => (He.ma K (He.ga K "Script") "__init__")) 0)],
  defA (fun K => (He.ga K "are_different")) "are_different" "are_different" s_are_different,
  defA (fun K => (He.ga K "repeats")) "repeats" "repeats" s_repeats,
  defA (fun K => (He.ga K "least_form")) "least_form" "least_form" s_least_form,
  defA (fun K => (He.ma K (He.ga K "Rhythm") "__init__")) "__init__" "Rhythm.__init__" s_Rhythm___init__,
  defA (fun K => (He.ga K "_law_real")) "_law_real" "_law_real" s__law_real0,
  defA (fun K => (He.ga K "_law_made")) "_law_made" "_law_made" s__law_made,
  defA (fun K => (He.ma K (He.ga K "Script") "__add__")) "__add__" "Script.__add__" s_Script___add__,
  defA (fun K => (He.ga K "behind_all")) "behind_all" "behind_all" s_behind_all0,
  defA (fun K => (He.ma K (He.ga K "Rhythm") "__contains__")) "__contains__" "Rhythm.__contains__" s_Rhythm___contains__,
  defA (fun K => (He.ga K "holds")) "holds" "holds" s_holds,
  defA (fun K => (He.ga K "behind")) "behind" "behind" s_behind1,
  defA (fun K => (He.ma K (He.ga K "Script") "__call__")) "__call__" "Script.__call__" s_Script___call__,
  defA (fun K => (He.ga K "_law_fates_of")) "_law_fates_of" "_law_fates_of" s__law_fates_of,
  defA (fun K => (He.ma K (He.ga K "Rhythm") "__and__")) "__and__" "Rhythm.__and__" s_Rhythm___and__,
  defA (fun K => (He.ma K (He.ga K "Rhythm") "__eq__")) "__eq__" "Rhythm.__eq__" s_Rhythm___eq__,
  defA (fun K => (He.ma K (He.ga K "Script") "__eq__")) "__eq__" "Script.__eq__" s_Script___eq__,
  defA (fun K => (He.ga K "_law_begun")) "_law_begun" "_law_begun" s__law_begun,
  defA (fun K => (He.ga K "law")) "law" "law" s_law]
abbrev Rw : PySem.W.OpenRow := PySem.W.OpenLaw.row PySem.Challenge.rw_stillstruck_k11_whole_scripts_put_togeth
def loose : List Str := [("_wall" : Str), ("__name__" : Str), ("SeriesError" : Str), ("BadRhythm" : Str), ("BadScript" : Str), ("TooMany" : Str), ("NoStep" : Str), ("BadDay" : Str), ("MOST_SIZE" : Str), ("is_number" : Str), ("is_list" : Str), ("are_different" : Str), ("common" : Str), ("repeats" : Str), ("least_form" : Str), ("Rhythm" : Str), ("common_round" : Str), ("SHIFT" : Str), ("KEEP" : Str), ("STRIKE" : Str), ("FROM" : Str), ("UNTIL" : Str), ("ADD" : Str), ("SINCE" : Str), ("FARTHEST" : Str), ("MOST_STEPS" : Str), ("MOST_ROUND" : Str), ("is_step_number" : Str), ("is_plain_step" : Str), ("is_add" : Str), ("is_since" : Str), ("is_step" : Str), ("flat" : Str), ("round_of" : Str), ("need_few" : Str), ("holds" : Str), ("behind" : Str), ("behind_all" : Str), ("Script" : Str), ("need_at" : Str), ("_law_begun" : Str), ("_law_mixed" : Str), ("_law_take" : Str), ("_law_pick" : Str), ("_law_rhythm" : Str), ("_law_day" : Str), ("_law_plain_step" : Str), ("_law_steps" : Str), ("_law_real" : Str), ("_law_made" : Str), ("_law_flat" : Str), ("_law_fates_of" : Str)]
abbrev hk : PySem.W.Hook := hookBF 6 fbs fns
def ob (s : PySem.W.SharedT) : He.AlD := obsBF 6 fbs fns (HandSHeadRun.getT s)
theorem ob_eq (s : PySem.W.SharedT) : ob s = hk.obs s.abs := obsBF_eq (HandSHeadRun.getT_eq s)
set_option maxHeartbeats 0 in
theorem run1 (w : World) (os : OsState) : (HandSHeadRun.endF (HandSHeadRun.stepQ (HandSHeadRun.denQ HandSHeadRun.tabQ) Rw.prog w) 20000 Rw.prog w os).map (fun s => (HandSHeadRun.looksF Rw.prog (PySem.W.boot_heap w.params) s.abs, HandSHeadRun.seenQ (PySem.W.view Rw.prog [55]) loose (PySem.importedModules Rw.prog.main.body) (fun s => PySem.W.xlAt (PySem.W.view Rw.prog [55]) [] s && PySem.W.recOk Rw.toRowW.records s) s.abs)) = some ((true, PySem.W.openGood (PySem.W.view Rw.prog [55]) loose)) := by
  kernel_rfl
set_option maxHeartbeats 0 in
theorem run2 (w : World) (os : OsState) : (HandSHeadRun.endF (HandSHeadRun.stepQ (HandSHeadRun.denQ HandSHeadRun.tabQ) Rw.prog w) 20000 Rw.prog w os).map (fun s => (ob s).1) = some ((hk.val w).1) := by
  kernel_rfl
set_option maxHeartbeats 0 in
theorem run3 (w : World) (os : OsState) : (HandSHeadRun.endF (HandSHeadRun.stepQ (HandSHeadRun.denQ HandSHeadRun.tabQ) Rw.prog w) 20000 Rw.prog w os).map (fun s => (ob s).2) = some ((hk.val w).2) := by
  kernel_rfl
theorem run (w : World) : HandSHeadRun.RunEq Rw (PySem.W.view Rw.prog [55]) hk ob 20000 loose w := fun os => by
  have a1 := run1 w os
  have a2 := run2 w os
  have a3 := run3 w os
  revert a1 a2 a3
  generalize (HandSHeadRun.endF (HandSHeadRun.stepQ (HandSHeadRun.denQ HandSHeadRun.tabQ) Rw.prog w) 20000 Rw.prog w os) = x
  intro a1 a2 a3
  cases x with
  | none => cases a1
  | some s =>
    have a1 := Option.some.inj a1
    have a2 := Option.some.inj a2
    have a3 := Option.some.inj a3
    have b1 := congrArg Prod.fst a1
    have b2 := congrArg Prod.snd a1
    exact congrArg some (Prod.ext b1 (Prod.ext b2 (Prod.ext a2 a3)))
end DL
set_option Elab.async false
set_option linter.all false
set_option maxRecDepth 100000
set_option maxHeartbeats 4000000
set_option autoImplicit false
/-! dicts whose keys are None, ints and tuples of ints, all values True: the model's operations -/
namespace DL
open PySem PySem.Spec PyProof.Rows L2
abbrev NK := NestedKey
/-- a key: None, an int, a tuple of ints -/
inductive KK where
  | non | int (i : Int) | tup (ns : List Int)
  deriving DecidableEq
def nk : KK → NK
  | .non => .none
  | .int i => .num i
  | .tup ns => .tup (ns.map NestedKey.num)
def hshK : KK → Int
  | .non => reduceHash 0xFCA86420
  | .int i => hashInt i
  | .tup ns => reduceHash (Builtin.Tuple.tupleHashOf (ns.map hashInt))
/-- the value is this key -/
def KIs (h : Heap) (k : KK) (v : Value) : Prop := NestedIs h (nk k) v
def entV (x : KK × Value) : DictEntry := ⟨hshK x.1, x.2, .bool true⟩
/-- the dict at d has these keys, in this order -/
def DictV (h : Heap) (d : Addr) (xs : List (KK × Value)) : Prop :=
  ∃ o es ep, h.get? d = some o ∧ o.ExactDict ∧ o.data = .dict es ep ∧ es.toList = xs.map entV ∧ (xs.map (·.1)).Nodup
theorem DictV.new (h : Heap) : DictV (h.push { cls := .type "dict", data := .dict #[] }) h.objs.size [] :=
  ⟨_, #[], 0, Heap.get?_push_size _ rfl, ⟨rfl, rfl, rfl⟩, rfl, rfl, List.nodup_nil⟩
theorem DictV.at {h h' : Heap} {d : Addr} {xs : List (KK × Value)} (x : DictV h d xs) (k : ∀ o, h.get? d = some o → h'.get? d = some o) : DictV h' d xs :=
  let ⟨o, es, ep, ho, r⟩ := x; ⟨o, es, ep, k o ho, r⟩
section
variable {prog : Program} {w : World} {A : Around} {E : Value → Shared → Prop} {s : Shared}
theorem KIs.val {h : Heap} {k : KK} {v : Value} (hi : KIs h k v) : v = .none ∨ (∃ b, v = .bool b) ∨ (∃ i t, v = .int i t) ∨ ∃ ns a, k = .tup ns ∧ v = .ref a := by
  cases k with
  | non => cases hi; exact .inl rfl
  | int i =>
    have hi : NestedIs h (.num i) v := hi
    cases hi with
    | bool _ => exact .inr (.inl ⟨_, rfl⟩)
    | int _ _ => exact .inr (.inr (.inl ⟨_, _, rfl⟩))
  | tup ns =>
    have hi : NestedIs h (.tup _) v := hi
    cases hi with
    | tup h1 h2 h3 h4 => exact .inr (.inr (.inr ⟨_, _, rfl, rfl⟩))
end
/-! ### as tracked objects -/
/-- the value v is the key k -/
def KeyIn (K : PySem.W.Frag) (H : Hp) : KK → V → Prop
  | .non, v => v = .non
  | .int i, v => v = .int i
  | .tup ns, v => ∃ b, v = .ref b ∧ SqT K H b (ns.map V.int)
theorem Same.sqT {K : PySem.W.Frag} {G G' : Hp} {a : Addr} {vs : List V} (h : ∀ a o, G a = some o → G' a = some o) (q : SqT K G a vs) : SqT K G' a vs := by
  rcases q with (q | ⟨o, q⟩) | q
  · exact .inl (.inl (h _ _ q))
  · exact .inl (.inr ⟨o, h _ _ q⟩)
  · exact .inr q
theorem KeyIn.mono {K : PySem.W.Frag} {G G' : Hp} (h : ∀ a o, G a = some o → G' a = some o) {k : KK} {v : V} (q : KeyIn K G k v) : KeyIn K G' k v := by
  cases k with
  | non => exact q
  | int i => exact q
  | tup ns => obtain ⟨b, e, q⟩ := q; exact ⟨b, e, Same.sqT h q⟩
/-- the dict with these keys at a, all values True -/
def KSO (a : Addr) (xs : List (KK × V)) : HO := .ext fun h => (a == sysModules) = false ∧ xs.length ≤ sizeLine ∧ ∃ ys, KV xs ys ∧ DictV h a ys
end DL
set_option Elab.async false
set_option linter.all false
set_option maxRecDepth 100000
set_option maxHeartbeats 4000000
set_option autoImplicit false
/-! DL, the data layer: readings over trees of data, above the hand layer. -/
namespace DL
open PySem PySem.Spec PyProof.Rows L2
/-! ### data -/
inductive D where
  | non | bl (b : Bool) | int (i : Int) | str (x : Str)
  | lst (ds : List D) | tup (ds : List D) | dct (kvs : List (Key × D))
  | ins (c : Str) (fs : List (Str × D)) | exc (c : Str) (fs : List (Str × D)) | hnd (n : Nat) | scr (ns : List Int)
  | dks (ks : List KK)
  /-- the i-th lambda of the law; the instance at a; the text that repr gives of d -/
  | fn (i : Nat) | adr (a : Addr) (d : D) | rps (d : D)
/-- a result: a value, an error of the package, or no claim -/
inductive Res (S α : Type) where
  | ok (a : α) (s : S) | err (x : D) (s : S) | stk
def M (S α : Type) := S → Res S α
def Res.bind {S α β : Type} (r : Res S α) (f : α → S → Res S β) : Res S β := match r with
  | .ok a s => f a s
  | .err x s => .err x s
  | .stk => .stk
instance {S : Type} : Monad (M S) where
  pure a := fun s => .ok a s
  bind m f := fun s => (m s).bind fun a s' => f a s'
def stk {S α : Type} : M S α := fun _ => .stk
/-- an error is no claim (within a comprehension) -/
def calmM {S α : Type} (m : M S α) : M S α := fun s => match m s with
  | .err _ _ => .stk
  | r => r
/-- m where p holds, else no claim -/
def grd {S α : Type} (p : Prop) [Decidable p] (m : M S α) : M S α := if p then m else stk
theorem grd_pos {S α : Type} {p : Prop} [Decidable p] {m : M S α} (h : p) : grd p m = m := if_pos h
@[simp] theorem pure_run {S α : Type} (a : α) (s : S) : (pure a : M S α) s = .ok a s := rfl
@[simp] theorem bind_run {S α β : Type} (m : M S α) (f : α → M S β) (s : S) : (m >>= f) s = (m s).bind fun a s' => f a s' := rfl
@[simp] theorem Res.bind_ok {S α β : Type} (a : α) (s : S) (f : α → S → Res S β) : (Res.ok a s).bind f = f a s := rfl
@[simp] theorem Res.bind_err {S α β : Type} (x : D) (s : S) (f : α → S → Res S β) : (Res.err x s).bind f = .err x s := rfl
@[simp] theorem Res.bind_stk {S α β : Type} (f : α → S → Res S β) : (Res.stk : Res S α).bind f = .stk := rfl
@[simp] theorem stk_run {S α : Type} (s : S) : (stk : M S α) s = .stk := rfl
/-! ### slots of a frame -/
inductive Slot where
  | val (d : D) | own (ds : List D) | obj (c : Str) (fs : List (Str × D))
abbrev Env := List (Option Slot)
def isOwn : Option (Option Slot) → Prop
  | some (some (.own _)) => True
  | some (some (.obj _ _)) => True
  | _ => False
inductive Flw where
  | nx (e : Env) | rt (d : D) | bk (e : Env) | ct (e : Env)
/-! ### what stands for data -/
/-- an object that none of the rules here writes: of another module's making (but no dict of keys), or a table of code objects -/
def Fixd : HO → Prop
  | .ext φ => ∀ a xs, HO.ext φ ≠ KSO a xs
  | .tbl _ => True
  | _ => False
/-- no table of code objects -/
abbrev NoTbl (o : HO) : Prop := ∀ ps, o ≠ .tbl ps
/-- what is fixed through a law: the written part, the classes by name, the draws' value, the world that may change -/
structure Cc (S : Type) where
  K : PySem.W.Frag
  cad : Str → Addr
  hnd : Nat → V
  rep : S → Hp → Prop
  reg : Addr → Prop
  frame : ∀ s H H', (∀ a o, H a = some o → reg a ∨ Fixd o → H' a = some o) → rep s H → rep s H'
  there : ∀ s H a, rep s H → reg a → ∃ o, H a = some o
  fno : Nat → Addr → Addr → HO := fun _ _ _ => .tbl #[]
  fnq : Str := ""
  rtx : D → Option Str := fun _ => none
/-- an exception object at a: its class at C, its dict -/
def exv (a C : Addr) (d : Option Addr) : HO := .ext fun h => ∃ (oe : Obj) (vs : Array Value), h.get? a = some oe ∧ Zc (.ref C) d oe ∧ oe.data = .fields vs
variable {S : Type}
mutual
def Rep (C : Cc S) (G : Hp) : D → V → Prop
  | .non, v => v = .non
  | .bl b, v => v = .bl b
  | .int i, v => v = .int i
  | .str x, v => v = .str x
  | .lst ds, v => ∃ a vs, v = .ref a ∧ G a = some (.lst vs) ∧ vs.length ≤ sizeLine ∧ RepL C G ds vs
  | .tup ds, v => ∃ a vs, v = .ref a ∧ SqT C.K G a vs ∧ vs.length ≤ sizeLine ∧ RepL C G ds vs
  | .dct kvs, v => ∃ a vs, v = .ref a ∧ G a = some (.dK vs) ∧ RepK C G kvs vs
  | .ins c fs, v => ∃ a dx vs, v = .ref a ∧ G a = some (.ins (C.cad c) dx vs) ∧ G dx = some (.own a) ∧ RepF C G fs vs
  | .exc c fs, v => ∃ a dd, v = .ref a ∧ G a = some (exv a (C.cad c) dd) ∧ ((fs = [] ∧ dd = none) ∨ ∃ d vs, dd = some d ∧ G d = some (.xd vs) ∧ RepF C G fs vs)
  | .hnd n, v => v = C.hnd n
  | .scr ns, v => ∃ a, v = .ref a ∧ SqL C.K G a (ns.map V.int)
  | .dks ks, v => ∃ a xs, v = .ref a ∧ G a = some (KSO a xs) ∧ xs.map (·.1) = ks ∧ ∀ p ∈ xs, KeyIn C.K G p.1 p.2
  | .fn i, v => ∃ a c, v = .ref a ∧ G a = some (C.fno i a c) ∧ G c = some (LamX.CodeO c C.fnq)
  | .adr a d, v => v = .ref a ∧ Rep C G d v
  | .rps d, v => ∃ x, v = .str x ∧ C.rtx d = some x
def RepL (C : Cc S) (G : Hp) : List D → List V → Prop
  | [], vs => vs = []
  | d :: ds, vs => ∃ v r, vs = v :: r ∧ Rep C G d v ∧ RepL C G ds r
def RepK (C : Cc S) (G : Hp) : List (Key × D) → List (Key × V) → Prop
  | [], vs => vs = []
  | (k, d) :: ds, vs => ∃ v r, vs = (k, v) :: r ∧ Rep C G d v ∧ RepK C G ds r
def RepF (C : Cc S) (G : Hp) : List (Str × D) → List (Str × V) → Prop
  | [], vs => vs = []
  | (k, d) :: ds, vs => ∃ v r, vs = (k, v) :: r ∧ Rep C G d v ∧ RepF C G ds r
end
mutual
theorem Rep.mono {C : Cc S} {G G' : Hp} (h : Same G G') : ∀ {d : D} {v : V}, Rep C G d v → Rep C G' d v
  | .non, _, r => r
  | .bl _, _, r => r
  | .int _, _, r => r
  | .str _, _, r => r
  | .lst _, _, ⟨a, vs, e, q, z, r⟩ => ⟨a, vs, e, h _ _ q, z, RepL.mono h r⟩
  | .tup _, _, ⟨a, vs, e, q, z, r⟩ => ⟨a, vs, e, by
      rcases q with (q | ⟨o, q⟩) | q
      · exact .inl (.inl (h _ _ q))
      · exact .inl (.inr ⟨o, h _ _ q⟩)
      · exact .inr q, z, RepL.mono h r⟩
  | .dct _, _, ⟨a, vs, e, q, r⟩ => ⟨a, vs, e, h _ _ q, RepK.mono h r⟩
  | .ins _ _, _, ⟨a, dx, vs, e, q, q', r⟩ => ⟨a, dx, vs, e, h _ _ q, h _ _ q', RepF.mono h r⟩
  | .exc _ _, _, ⟨a, dd, e, q, .inl r⟩ => ⟨a, dd, e, h _ _ q, .inl r⟩
  | .exc _ _, _, ⟨a, dd, e, q, .inr ⟨d, vs, ed, qd, r⟩⟩ => ⟨a, dd, e, h _ _ q, .inr ⟨d, vs, ed, h _ _ qd, RepF.mono h r⟩⟩
  | .hnd _, _, r => r
  | .scr _, _, ⟨a, e, q⟩ => ⟨a, e, h.seq q⟩
  | .dks _, _, ⟨a, xs, e, q, ek, r⟩ => ⟨a, xs, e, h _ _ q, ek, fun p hp => (r p hp).mono h⟩
  | .fn _, _, ⟨a, c, e, q, q'⟩ => ⟨a, c, e, h _ _ q, h _ _ q'⟩
  | .adr _ _, _, ⟨e, r⟩ => ⟨e, Rep.mono h r⟩
  | .rps _, _, r => r
theorem RepL.mono {C : Cc S} {G G' : Hp} (h : Same G G') : ∀ {ds : List D} {vs : List V}, RepL C G ds vs → RepL C G' ds vs
  | [], _, r => r
  | _ :: _, _, ⟨v, r, e, a, b⟩ => ⟨v, r, e, Rep.mono h a, RepL.mono h b⟩
theorem RepK.mono {C : Cc S} {G G' : Hp} (h : Same G G') : ∀ {ds : List (Key × D)} {vs : List (Key × V)}, RepK C G ds vs → RepK C G' ds vs
  | [], _, r => r
  | (_, _) :: _, _, ⟨v, r, e, a, b⟩ => ⟨v, r, e, Rep.mono h a, RepK.mono h b⟩
theorem RepF.mono {C : Cc S} {G G' : Hp} (h : Same G G') : ∀ {ds : List (Str × D)} {vs : List (Str × V)}, RepF C G ds vs → RepF C G' ds vs
  | [], _, r => r
  | (_, _) :: _, _, ⟨v, r, e, a, b⟩ => ⟨v, r, e, Rep.mono h a, RepF.mono h b⟩
end
theorem RepL.length {C : Cc S} {G : Hp} : ∀ {ds : List D} {vs : List V}, RepL C G ds vs → vs.length = ds.length
  | [], _, r => by rw [r]; rfl
  | _ :: _, _, ⟨v, r, e, _, b⟩ => by rw [e, List.length_cons, List.length_cons, b.length]
theorem RepL.append {C : Cc S} {G : Hp} : ∀ {ds es : List D} {vs us : List V}, RepL C G ds vs → RepL C G es us → RepL C G (ds ++ es) (vs ++ us)
  | [], _, _, _, r, q => by subst r; exact q
  | _ :: _, _, _, _, ⟨v, r, e, a, b⟩, q => by subst e; exact ⟨v, _, rfl, a, b.append q⟩
theorem RepL.get {C : Cc S} {G : Hp} : ∀ {ds : List D} {vs : List V} {i : Nat} {d : D}, RepL C G ds vs → ds[i]? = some d → ∃ v, vs[i]? = some v ∧ Rep C G d v
  | [], _, _, _, _, h => by simp at h
  | _ :: _, _, 0, _, ⟨v, r, e, a, b⟩, h => by
    subst e
    simp at h
    subst h
    exact ⟨v, by simp, a⟩
  | _ :: _, _, i + 1, _, ⟨v, r, e, a, b⟩, h => by
    subst e
    obtain ⟨v', h1, h2⟩ := b.get (i := i) (by simpa using h)
    exact ⟨v', by simpa using h1, h2⟩
theorem RepL.one {C : Cc S} {G : Hp} {d : D} {v : V} (r : Rep C G d v) : RepL C G [d] [v] := ⟨v, [], rfl, r, rfl⟩
theorem RepL.cons {C : Cc S} {G : Hp} {d : D} {v : V} {ds : List D} {vs : List V} (r : Rep C G d v) (q : RepL C G ds vs) : RepL C G (d :: ds) (v :: vs) := ⟨v, vs, rfl, r, q⟩
/-- a code object that was tracked may be frozen -/
def NwO (reg : Addr → Prop) (H : Hp) (a : Addr) (o : HO) : Prop := ∃ c q, o = LamX.CodeO c q ∧ (reg a ∨ H a = some o ∨ ∃ ps, H a = some (.tbl ps))
theorem NwO.back {reg reg1 : Addr → Prop} {H H1 : Hp} {b : Addr} {o : HO} (fr : ∀ a o, H a = some o → ¬ reg a → NoTbl o → H1 a = some o) (h : NwO reg1 H1 b o) (hr : reg1 b → reg b ∨ H b = none) : H b = none ∨ NwO reg H b o := by
  obtain ⟨c, q, e, h⟩ := h
  by_cases r : reg b
  · exact .inr ⟨c, q, e, .inl r⟩
  · cases hb : H b with
    | none => exact .inl rfl
    | some o' =>
      refine .inr ⟨c, q, e, .inr ?_⟩
      by_cases t : NoTbl o'
      · have h1 := fr b o' hb r t
        rcases h with h | h | ⟨ps, h⟩
        · rcases hr h with z | z
          · exact absurd z r
          · rw [z] at hb; cases hb
        · rw [h1] at h; rw [hb]; exact .inl h
        · rw [h1] at h; exact absurd (Option.some.inj h) (t ps)
      · obtain ⟨ps, t⟩ := Classical.not_forall.mp t
        rw [Classical.not_not.mp t] at hb
        exact .inr ⟨ps, hb.symm ▸ rfl⟩
/-- from one state to a later one: what is frozen stays, what is tracked stays outside the world, what is newly frozen was not tracked -/
structure Ext (reg : Addr → Prop) (G H G' H' : Hp) : Prop where
  g : Same G G'
  fr : ∀ a o, H a = some o → ¬ reg a → NoTbl o → H' a = some o
  nw : ∀ a o, G' a = some o → G a = some o ∨ H a = none ∨ NwO reg H a o
  tr : ∀ a, H' a = none → H a = none
theorem Ext.refl (reg : Addr → Prop) (G H : Hp) : Ext reg G H G H := ⟨fun _ _ h => h, fun _ _ h _ _ => h, fun _ _ h => .inl h, fun _ h => h⟩
theorem Ext.trans {reg : Addr → Prop} {G H G1 H1 G2 H2 : Hp} (a : Ext reg G H G1 H1) (b : Ext reg G1 H1 G2 H2) : Ext reg G H G2 H2 where
  g := a.g.trans b.g
  fr := fun c o h n t => b.fr c o (a.fr c o h n t) n t
  nw := fun c o h => by
    rcases b.nw c o h with q | q | q
    · exact a.nw c o q
    · exact .inr (.inl (a.tr c q))
    · exact .inr (q.back a.fr .inl)
  tr := fun c h => a.tr c (b.tr c h)
theorem Ext.wide {reg reg' : Addr → Prop} {G H G' H' : Hp} (a : Ext reg G H G' H') (h : ∀ x, reg x → reg' x) : Ext reg' G H G' H' := ⟨a.g, fun c o q n t => a.fr c o q (fun z => n (h c z)) t, fun c o q => (a.nw c o q).imp_right fun q => q.imp_right fun ⟨x, y, e, q⟩ => ⟨x, y, e, q.imp_left (h c)⟩, a.tr⟩
/-- the ground: the frozen part, the world -/
structure Gd (C : Cc S) (G H : Hp) (s : S) : Prop where
  gh : Same G H
  w : C.rep s H
  gr : ∀ a, C.reg a → G a = none
  nt : ∀ a o, G a = some o → NoTbl o
/-- a new object, frozen -/
theorem Gd.new {C : Cc S} {G H : Hp} {s : S} (g : Gd C G H s) {p : Addr} (n : H p = none) (o : HO) (ho : NoTbl o := by intro _ h; cases h) : Gd C (upd G p o) (upd H p o) s ∧ Ext C.reg G H (upd G p o) (upd H p o) := by
  have np : ¬ C.reg p := fun z => by
    obtain ⟨u, e⟩ := C.there s H p g.w z
    rw [n] at e; cases e
  have hG : G p = none := g.gh.free n
  refine ⟨⟨fun b u e => ?_, C.frame s H _ (fun b u e _ => by rw [upd_ne (ne_of_none e n)]; exact e) g.w, fun b hb => ?_, fun b u e => ?_⟩, fun b u e => ?_, fun b u e _ _ => ?_, fun b u e => ?_, fun b e => ?_⟩
  · by_cases h : b = p
    · subst h; rw [upd_same] at e ⊢; exact e
    · rw [upd_ne h] at e ⊢; exact g.gh _ _ e
  · rw [upd_ne fun z : b = p => np (z ▸ hb)]; exact g.gr b hb
  · by_cases h : b = p
    · subst h; rw [upd_same] at e; cases e; exact ho
    · rw [upd_ne h] at e; exact g.nt b u e
  · rw [upd_ne (ne_of_none e hG)]; exact e
  · rw [upd_ne (ne_of_none e n)]; exact e
  · by_cases h : b = p
    · subst h; exact .inr (.inl n)
    · rw [upd_ne h] at e; exact .inl e
  · by_cases h : b = p
    · subst h; rw [upd_same] at e; cases e
    · rw [upd_ne h] at e; exact e
/-- a new object, not frozen yet -/
theorem Gd.open_ {C : Cc S} {G H : Hp} {s : S} (g : Gd C G H s) {p : Addr} (n : H p = none) (o : HO) : Gd C G (upd H p o) s ∧ Ext C.reg G H G (upd H p o) := by
  refine ⟨⟨fun b u e => ?_, C.frame s H _ (fun b u e _ => by rw [upd_ne (ne_of_none e n)]; exact e) g.w, g.gr, g.nt⟩, fun b u e => e, fun b u e _ _ => ?_, fun b u e => .inl e, fun b e => ?_⟩
  · have q := g.gh _ _ e
    rw [upd_ne (ne_of_none q n)]; exact q
  · rw [upd_ne (ne_of_none e n)]; exact e
  · by_cases h : b = p
    · subst h; rw [upd_same] at e; cases e
    · rw [upd_ne h] at e; exact e
/-- an object that is not frozen and not the world's is written -/
theorem Gd.write {C : Cc S} {G H : Hp} {s : S} (g : Gd C G H s) {p : Addr} {o' : HO} (e : H p = some o') (n : G p = none) (nr : ¬ C.reg p) (o : HO) (nf : ¬ Fixd o' := by exact fun h => h) : Gd C G (upd H p o) s := by
  refine ⟨fun b u q => ?_, C.frame s H _ (fun b u q h => ?_) g.w, g.gr, g.nt⟩
  · have z := g.gh _ _ q
    rw [upd_ne (ne_of_none q n)]; exact z
  · have hb : b ≠ p := fun z => by
      subst z
      rw [e] at q; cases q
      exact h.elim nr nf
    rw [upd_ne hb]; exact q
/-- an object that was not frozen is frozen -/
theorem Gd.freeze {C : Cc S} {G H : Hp} {s : S} (g : Gd C G H s) {p : Addr} {o : HO} (e : H p = some o) (nr : ¬ C.reg p) (ho : NoTbl o := by intro _ h; cases h) : Gd C (upd G p o) H s := by
  refine ⟨fun b u q => ?_, g.w, fun b hb => ?_, fun b u q => ?_⟩
  · by_cases h : b = p
    · subst h; rw [upd_same] at q; cases q; exact e
    · rw [upd_ne h] at q; exact g.gh _ _ q
  · rw [upd_ne fun z : b = p => nr (z ▸ hb)]; exact g.gr b hb
  · by_cases h : b = p
    · subst h; rw [upd_same] at q; cases q; exact ho
    · rw [upd_ne h] at q; exact g.nt b u q
/-- what is fixed through a def's body: the ground at its entry, what it may write besides the world, the wish about errors -/
structure Fx (S : Type) extends Cc S where
  G0 : Hp
  H0 : Hp
  reg0 : Addr → Prop
  sub : ∀ a, reg a → reg0 a
  wish : WX
def RepSlot (F : Fx S) (G H : Hp) : Option Slot → Option V → Prop
  | none, _ => True
  | some (.val d), o => ∃ v, o = some v ∧ Rep F.toCc G d v
  | some (.own ds), o => ∃ a vs, o = some (.ref a) ∧ H a = some (.lst vs) ∧ G a = none ∧ ¬ F.reg a ∧ F.H0 a = none ∧ vs.length ≤ sizeLine ∧ RepL F.toCc G ds vs
  | some (.obj c fs), o => ∃ a dx vs, o = some (.ref a) ∧ H a = some (.ins (F.cad c) dx vs) ∧ H dx = some (.own a) ∧ G a = none ∧ G dx = none ∧ ¬ F.reg a ∧ ¬ F.reg dx ∧ F.reg0 a ∧ (∃ C' fv0, F.H0 a = some (.ins C' dx fv0)) ∧ RepF F.toCc G fs vs
structure RepEnv (F : Fx S) (G H : Hp) (σ : L2.St) (env : Env) : Prop where
  len : σ.length = env.length
  at_ : ∀ (i : Nat) (sl : Option Slot), env[i]? = some sl → ∃ o, σ[i]? = some o ∧ RepSlot F G H sl o
  apart : ∀ i j : Nat, i ≠ j → isOwn env[i]? → isOwn env[j]? → σ[i]? ≠ σ[j]?
structure StG (F : Fx S) (G : Hp) (σ : L2.St) (H : Hp) (env : Env) (s : S) : Prop where
  ext : Ext F.reg0 F.G0 F.H0 G H
  gd : Gd F.toCc G H s
  env_ : RepEnv F G H σ env
theorem Ext.un {reg : Addr → Prop} {G H G' H' : Hp} (e : Ext reg G H G' H') {b : Addr} {o : HO} (q : H b = some o) (n : G b = none) (nr : ¬ reg b) (nc : (∀ c q, o ≠ LamX.CodeO c q) ∧ ∀ ps, o ≠ .tbl ps := by exact ⟨(fun _ _ h => by cases h), fun _ h => by cases h⟩) : G' b = none := by
  cases y : G' b with
  | none => rfl
  | some o =>
    rcases e.nw b o y with w | w | ⟨c, x, w, z⟩
    · rw [n] at w; cases w
    · rw [q] at w; cases w
    · rcases z with z | z | ⟨ps, z⟩
      · exact absurd z nr
      · rw [q] at z; exact absurd ((Option.some.inj z).trans w) (nc.1 c x)
      · rw [q] at z; exact absurd (Option.some.inj z) (nc.2 ps)
theorem RepSlot.ext {F : Fx S} {G H G' H' : Hp} (e : Ext F.reg G H G' H') : ∀ {sl : Option Slot} {o : Option V}, RepSlot F G H sl o → RepSlot F G' H' sl o
  | none, _, _ => trivial
  | some (.val _), _, ⟨v, h, r⟩ => ⟨v, h, r.mono e.g⟩
  | some (.own _), _, ⟨a, vs, h, q, n, nr, n0, z, r⟩ => ⟨a, vs, h, e.fr _ _ q nr (by intro _ h; cases h), e.un q n nr, nr, n0, z, r.mono e.g⟩
  | some (.obj _ _), _, ⟨a, dx, vs, h, q, qd, n, nd, nr, nrd, r0, h0, r⟩ => ⟨a, dx, vs, h, e.fr _ _ q nr (by intro _ h; cases h), e.fr _ _ qd nrd (by intro _ h; cases h), e.un q n nr, e.un qd nd nrd, nr, nrd, r0, h0, r.mono e.g⟩
theorem StG.ext' {F : Fx S} {G G' : Hp} {σ : L2.St} {H H' : Hp} {env : Env} {s s' : S} (h : StG F G σ H env s) (e : Ext F.reg G H G' H') (g : Gd F.toCc G' H' s') : StG F G' σ H' env s' :=
  ⟨h.ext.trans (e.wide F.sub), g, h.env_.len, fun i sl q => let ⟨o, a, b⟩ := h.env_.at_ i sl q; ⟨o, a, b.ext e⟩, h.env_.apart⟩
/-! ### the readings as the hand layer's -/
def RepX (C : Cc S) (G : Hp) : D → Value → Option Addr → Prop
  | .exc c fs, cls, dd => cls = .ref (C.cad c) ∧ ((fs = [] ∧ dd = none) ∨ ∃ d vs, dd = some d ∧ G d = some (.xd vs) ∧ RepF C G fs vs)
  | _, _, _ => False
/-- behind a value; behind an error -/
def Post {α : Type} (F : Fx S) (G H : Hp) (r : Res S α) (Q : α → S → Prop) : Prop := match r with
  | .ok a s' => Q a s'
  | .err x s' => ∀ cls dd σ' G' H', Same G G' → Ext F.reg0 F.G0 F.H0 G' H' → Gd F.toCc G' H' s' → RepX F.toCc G' x cls dd → F.wish cls dd σ' H'
  | .stk => False
theorem Post.mono {α : Type} {F : Fx S} {G H : Hp} {r : Res S α} {Q Q' : α → S → Prop} (h : Post F G H r Q) (m : ∀ a s', r = .ok a s' → Q a s' → Q' a s') : Post F G H r Q' := by
  cases r with
  | ok a s' => exact m a s' rfl h
  | err x s' => exact h
  | stk => exact h
theorem Post.bind {α β : Type} {F : Fx S} {G H : Hp} {r : Res S α} {f : α → S → Res S β} {Q : β → S → Prop} (h : Post F G H (r.bind f) Q) : Post F G H r fun a s' => Post F G H (f a s') Q := by
  cases r with
  | ok a s' => exact h
  | err x s' => exact h
  | stk => exact h
theorem Post.later {α : Type} {F : Fx S} {G H G' H' : Hp} {r : Res S α} {Q : α → S → Prop} (h : Post F G H r Q) (e : Same G G') : Post F G' H' r Q := by
  cases r with
  | ok a s' => exact h
  | err x s' => exact fun cls dd σ' G2 H2 e2 => h cls dd σ' G2 H2 (e.trans e2)
  | stk => exact h
theorem Post.grd {α : Type} {F : Fx S} {G H : Hp} {p : Prop} [Decidable p] {m : M S α} {s : S} {Q : α → S → Prop} (h : Post F G H (DL.grd p m s) Q) : p ∧ Post F G H (m s) Q := by
  unfold DL.grd at h
  by_cases q : p
  · rw [if_pos q] at h; exact ⟨q, h⟩
  · rw [if_neg q] at h; exact h.elim
def tE (F : Fx S) (τ : Env → M S D) : TE := fun σ H Q => ∃ G env s, StG F G σ H env s ∧
  Post F G H (τ env s) fun d s' => ∀ v G' H', Ext F.reg G H G' H' → StG F G' σ H' env s' → Rep F.toCc G' d v → Q v H'
def tT (F : Fx S) (τ : Env → M S Bool) : TT := fun σ H Q => ∃ G env s, StG F G σ H env s ∧
  Post F G H (τ env s) fun b s' => ∀ G' H', Ext F.reg G H G' H' → StG F G' σ H' env s' → Q b H'
def tA (F : Fx S) (τ : Env → M S (List D)) : TA := fun σ H Q => ∃ G env s, StG F G σ H env s ∧
  Post F G H (τ env s) fun ds s' => ∀ vs G' H', Ext F.reg G H G' H' → StG F G' σ H' env s' → RepL F.toCc G' ds vs → Q vs H'
def FP (F : Fx S) (G : Hp) (D : Ends) (fl : Flw) (s' : S) : Prop := match fl with
  | .nx e => ∀ σ' G' H', Same G G' → StG F G' σ' H' e s' → D.nx σ' H'
  | .bk e => ∀ σ' G' H', Same G G' → StG F G' σ' H' e s' → D.bk σ' H'
  | .ct e => ∀ σ' G' H', Same G G' → StG F G' σ' H' e s' → D.ct σ' H'
  | .rt d => ∀ v G' H', Same G G' → Ext F.reg0 F.G0 F.H0 G' H' → Gd F.toCc G' H' s' → Rep F.toCc G' d v → D.rt v H'
def tS (F : Fx S) (τ : Env → M S Flw) : TS := fun D σ H => ∃ G env s, StG F G σ H env s ∧ Post F G H (τ env s) (FP F G D)
theorem FP.later {F : Fx S} {G G' : Hp} {D : Ends} {fl : Flw} {s' : S} (h : FP F G D fl s') (e : Same G G') : FP F G' D fl s' := by
  cases fl with
  | nx _ => exact fun σ' G2 H2 q => h σ' G2 H2 (e.trans q)
  | bk _ => exact fun σ' G2 H2 q => h σ' G2 H2 (e.trans q)
  | ct _ => exact fun σ' G2 H2 q => h σ' G2 H2 (e.trans q)
  | rt _ => exact fun v G2 H2 q => h v G2 H2 (e.trans q)
/-! ### weakening -/
theorem pe_mono {X : Cx} {e : Expr} {t t' : TE} (h : PE X e t) (m : ∀ σ H Q, t' σ H Q → t σ H Q) : PE X e t' := ⟨fun pins s σ H Q I q => h.run pins s σ H Q I (m σ H Q q)⟩
theorem pt_mono {X : Cx} {e : Expr} {t t' : TT} (h : PT X e t) (m : ∀ σ H Q, t' σ H Q → t σ H Q) : PT X e t' := ⟨fun pins s σ H Q I q => h.run pins s σ H Q I (m σ H Q q)⟩
theorem pw_mono {X : Cx} {e : Expr} {t t' : TT} (h : PW X e t) (m : ∀ σ H Q, t' σ H Q → t σ H Q) : PW X e t' := ⟨fun wh pins s σ H Q I q => h.run wh pins s σ H Q I (m σ H Q q)⟩
theorem pa_mono {X : Cx} {es : List Expr} {t t' : TA} (h : PA X es t) (m : ∀ σ H Q, t' σ H Q → t σ H Q) : PA X es t' := ⟨fun pos pins s σ H Q I q => h.run pos pins s σ H Q I (m σ H Q q)⟩
theorem ps_mono {X : Cx} {st : Stmt} {t t' : TS} (h : PS X st t) (m : ∀ D σ H, t' D σ H → t D σ H) : PS X st t' := ⟨fun pins s σ H D I q => h.run pins s σ H D I (m D σ H q)⟩
theorem pss_mono {X : Cx} {st : List Stmt} {t t' : TS} (h : PSs X st t) (m : ∀ D σ H, t' D σ H → t D σ H) : PSs X st t' := ⟨fun pins s σ H D I q => h.run pins s σ H D I (m D σ H q)⟩
end DL
set_option Elab.async false
set_option linter.all false
set_option maxRecDepth 100000
set_option maxHeartbeats 4000000
set_option autoImplicit false
namespace DL
open PySem PySem.Spec PyProof.Rows L2
variable {S : Type} {X : Cx} {F : Fx S}
/-! ### sequencing -/
theorem seqE {α : Type} {τ : Env → M S D} {k : D → S → Res S α} {G H : Hp} {σ : L2.St} {env : Env} {s : S} {P : α → S → Prop} {Q : VK} (st : StG F G σ H env s) (p : Post F G H ((τ env s).bind k) P)
    (h : ∀ d s1 v G1 H1, Ext F.reg G H G1 H1 → StG F G1 σ H1 env s1 → Rep F.toCc G1 d v → Post F G1 H1 (k d s1) P → Q v H1) : tE F τ σ H Q :=
  ⟨G, env, s, st, p.bind.mono fun d s1 _ hk v G1 H1 e1 st1 r1 => h d s1 v G1 H1 e1 st1 r1 (hk.later e1.g)⟩
theorem seqT {α : Type} {τ : Env → M S Bool} {k : Bool → S → Res S α} {G H : Hp} {σ : L2.St} {env : Env} {s : S} {P : α → S → Prop} {Q : Bool → Hp → Prop} (st : StG F G σ H env s) (p : Post F G H ((τ env s).bind k) P)
    (h : ∀ b s1 G1 H1, Ext F.reg G H G1 H1 → StG F G1 σ H1 env s1 → Post F G1 H1 (k b s1) P → Q b H1) : tT F τ σ H Q :=
  ⟨G, env, s, st, p.bind.mono fun d s1 _ hk G1 H1 e1 st1 => h d s1 G1 H1 e1 st1 (hk.later e1.g)⟩
theorem seqA {α : Type} {τ : Env → M S (List D)} {k : List D → S → Res S α} {G H : Hp} {σ : L2.St} {env : Env} {s : S} {P : α → S → Prop} {Q : List V → Hp → Prop} (st : StG F G σ H env s) (p : Post F G H ((τ env s).bind k) P)
    (h : ∀ ds s1 vs G1 H1, Ext F.reg G H G1 H1 → StG F G1 σ H1 env s1 → RepL F.toCc G1 ds vs → Post F G1 H1 (k ds s1) P → Q vs H1) : tA F τ σ H Q :=
  ⟨G, env, s, st, p.bind.mono fun d s1 _ hk v G1 H1 e1 st1 r1 => h d s1 v G1 H1 e1 st1 r1 (hk.later e1.g)⟩
/-- what follows a value -/
abbrev K1 (F : Fx S) (G H : Hp) (σ : L2.St) (env : Env) (Q : VK) : D → S → Prop := fun d s' => ∀ v G' H', Ext F.reg G H G' H' → StG F G' σ H' env s' → Rep F.toCc G' d v → Q v H'
theorem K1.trans {G H G1 H1 : Hp} {σ : L2.St} {env : Env} {Q : VK} {d : D} {s' : S} (e : Ext F.reg G H G1 H1) (h : K1 F G H σ env Q d s') : K1 F G1 H1 σ env Q d s' := fun v G' H' e' => h v G' H' (e.trans e')
theorem Post.K1 {G H G1 H1 : Hp} {σ : L2.St} {env : Env} {Q : VK} {r : Res S D} (e : Ext F.reg G H G1 H1) (h : Post F G1 H1 r (K1 F G H σ env Q)) : Post F G1 H1 r (K1 F G1 H1 σ env Q) := h.mono fun _ _ _ q => q.trans e
/-! ### names and constants -/
def rVar (i : Nat) : Env → M S D := fun env => match env[i]? with
  | some (some (.val d)) => pure d
  | _ => stk
def rC (d : D) : Env → M S D := fun _ => pure d
theorem de_var (i : Nat) {e : Expr} (h : PE X e (tVar i)) : PE X e (tE F (rVar i)) := pe_mono h fun σ H Q ⟨G, env, s, st, p⟩ => by
  have q : Post F G H ((match env[i]? with
    | some (some (.val d)) => pure d
    | _ => stk : M S D) s) _ := p
  cases hd : env[i]? with
  | none => rw [hd] at q; exact q.elim
  | some sl =>
    rw [hd] at q
    cases sl with
    | none => exact q.elim
    | some sl =>
      cases sl with
      | val d =>
        obtain ⟨o, ho, v, ev, r⟩ := st.env_.at_ i _ hd
        subst ev
        exact ⟨v, ho, q v G H (Ext.refl _ _ _) st r⟩
      | own _ => exact q.elim
      | obj _ _ => exact q.elim
theorem de_c {e : Expr} {d : D} {v : V} (h : PE X e (tC v)) (r : ∀ G, Rep F.toCc G d v) : PE X e (tE F (rC d)) := pe_mono h fun σ H Q ⟨G, env, s, st, p⟩ => p v G H (Ext.refl _ _ _) st (r G)
theorem de_int {i : Int} {j pos} : PE X (.Constant (.int i) j pos) (tE F (rC (.int i))) := de_c pe_int fun _ => rfl
theorem de_bl {b : Bool} {j pos} : PE X (.Constant (.bool b) j pos) (tE F (rC (.bl b))) := de_c pe_bl fun _ => rfl
theorem de_non {j pos} : PE X (.Constant .none j pos) (tE F (rC .non)) := de_c pe_non fun _ => rfl
theorem de_str {x : Str} {j pos} : PE X (.Constant (.str x) j pos) (tE F (rC (.str x))) := de_c pe_str fun _ => rfl
theorem de_gint {x : Str} {i : Int} {pos : Pos} (hg : Gl X x) (hm : ∃ t, X.mg x = some (.int i t)) (hd : (x == ("__debug__" : Str)) = false := by decide) : PE X (.Name x pos) (tE F (rC (.int i))) := by
  obtain ⟨t, hm⟩ := hm
  exact de_c (pe_glob (v := .int i) hg hm ⟨t, rfl⟩ hd) fun _ => rfl
theorem de_gstr {x z : Str} {pos : Pos} (hg : Gl X x) (hm : ∃ t, X.mg x = some (.str z t)) (hd : (x == ("__debug__" : Str)) = false := by decide) : PE X (.Name x pos) (tE F (rC (.str z))) := by
  obtain ⟨t, hm⟩ := hm
  exact de_c (pe_glob (v := .str z) hg hm ⟨t, rfl⟩ hd) fun _ => rfl
/-- no claim of this expression -/
def rNo : Env → M S D := fun _ => stk
/-! ### two-place operations -/
def OpD (F : Fx S) (r : R2) (f : D → D → M S D) : Prop := ∀ G σ H env s d e x y Q, StG F G σ H env s → Rep F.toCc G d x → Rep F.toCc G e y → Post F G H (f d e s) (K1 F G H σ env Q) → r x y H Q
def bin (f : D → D → M S D) (τ υ : Env → M S D) : Env → M S D := fun env => do
  let x ← τ env
  let y ← υ env
  f x y
theorem tOp_of {r : R2} {f : D → D → M S D} {τ υ : Env → M S D} (hd : OpD F r f) (σ : L2.St) (H : Hp) (Q : VK) (h : tE F (bin f τ υ) σ H Q) : tOp r (tE F τ) (tE F υ) σ H Q := by
  obtain ⟨G, env, s, st, p⟩ := h
  refine seqE st p fun d s1 x G1 H1 e1 st1 r1 p1 => ?_
  refine seqE st1 p1 fun e s2 y G2 H2 e2 st2 r2 p2 => ?_
  exact hd G2 σ H2 env s2 d e x y Q st2 (r1.mono e2.g) r2 (p2.K1 (e1.trans e2))
theorem de_op {op : Operator} {r : R2} {f : D → D → M S D} {a b : Expr} {τ υ : Env → M S D} {pos : Pos} (ho : OpR X (binaryOp op) r) (hd : OpD F r f) (ha : PE X a (tE F τ)) (hb : PE X b (tE F υ)) : PE X (.BinOp a op b pos) (tE F (bin f τ υ)) :=
  pe_mono (pe_op ho ha hb) (tOp_of hd)
theorem de_cmp {op : CmpOp} {r : R2} {f : D → D → M S D} {a b : Expr} {τ υ : Env → M S D} {pos : Pos} (ho : OpR X (compareOp op) r) (hd : OpD F r f) (ha : PE X a (tE F τ)) (hb : PE X b (tE F υ)) (hm : behindInMarks op b = false) : PE X (.Compare a [op] [b] pos) (tE F (bin f τ υ)) :=
  pe_mono (pe_cmpR ho ha hb hm) (tOp_of hd)
theorem de_ix {r : R2} {f : D → D → M S D} {a b : Expr} {τ υ : Env → M S D} {pos : Pos} (hr : IxR X r) (hd : OpD F r f) (ha : PE X a (tE F τ)) (hb : PE X b (tE F υ)) (hs : PlainIx b) : PE X (.Subscript a b pos) (tE F (bin f τ υ)) :=
  pe_mono (pe_ix hr ha hb hs) (tOp_of hd)
theorem OpR_or {f : Value → Value → Sem Value} {r r' : R2} (h : OpR X f r) (h' : OpR X f r') : OpR X f (fun x y H Q => r x y H Q ∨ r' x y H Q) := by
  intro pins s σ H x y v u Q I rx ry q
  rcases q with q | q
  · exact h pins s σ H x y v u Q I rx ry q
  · exact h' pins s σ H x y v u Q I rx ry q
/-! ### one test or value as a test -/
def asT (τ : Env → M S D) : Env → M S Bool := fun env => do
  match ← τ env with
  | .bl b => pure b
  | _ => stk
/-- a value that is True or False, as a test -/
theorem dt_val {e : Expr} {τ : Env → M S D} (h : PE X e (tE F τ)) (he : ∀ whole, isTrue e X.env whole = (do let v ← whole; standAt e.pos; holding [v] (truthy v)) := by intro _; rfl) : PT X e (tT F (asT τ)) :=
  pt_mono (pt_val h he) fun σ H Q ⟨G, env, s, st, p⟩ => by
    refine seqE st p fun d s1 v G1 H1 e1 st1 r1 p1 => ?_
    cases d with
    | bl b => exact ⟨b, r1, p1 G1 H1 e1 st1⟩
    | _ => exact p1.elim
theorem dt_cmp {op : CmpOp} {r : R2} {f : D → D → M S D} {a b : Expr} {τ υ : Env → M S D} {pos : Pos} (ho : OpR X (compareOp op) r) (hd : OpD F r f) (ha : PE X a (tE F τ)) (hb : PE X b (tE F υ)) (hm : behindInMarks op b = false) : PT X (.Compare a [op] [b] pos) (tT F (asT (bin f τ υ))) :=
  pt_mono (pt_cmpR ho ha hb hm) fun σ H Q ⟨G, env, s, st, p⟩ => by
    refine tOp_of hd σ H _ (seqE st p fun d s1 v G1 H1 e1 st1 r1 p1 => ?_)
    cases d with
    | bl b => exact ⟨b, r1, p1 G1 H1 e1 st1⟩
    | _ => exact p1.elim
def chn (f g : D → D → M S D) (τ υ ω : Env → M S D) : Env → M S D := fun env => do
  let x ← τ env
  let y ← υ env
  match ← f x y with
  | .bl true => do
    let z ← ω env
    match ← g y z with
    | .bl b => pure (.bl b)
    | _ => stk
  | .bl false => pure (.bl false)
  | _ => stk
theorem tChain_of {r r' : R2} {f g : D → D → M S D} {τ υ ω : Env → M S D} (hd : OpD F r f) (hd' : OpD F r' g) (σ : L2.St) (H : Hp) (Q : VK) (h : tE F (chn f g τ υ ω) σ H Q) : tChain r r' (tE F τ) (tE F υ) (tE F ω) σ H Q := by
  obtain ⟨G, env, s, st, p⟩ := h
  refine seqE st p fun d s1 x G1 H1 e1 st1 r1 p1 => ?_
  refine seqE st1 p1 fun e s2 y G2 H2 e2 st2 r2 p2 => ?_
  refine hd G2 σ H2 env s2 d e x y _ st2 (r1.mono e2.g) r2 (p2.bind.mono fun z s3 _ hk v G3 H3 e3 st3 r3 => ?_)
  cases z with
  | bl b =>
    cases r3
    refine ⟨b, rfl, ?_⟩
    cases b with
    | true =>
      rw [if_pos rfl]
      refine seqE st3 (hk.later e3.g) fun z s4 w G4 H4 e4 st4 r4 p4 => ?_
      refine hd' G4 σ H4 env s4 e z y w Q st4 (r2.mono (e3.trans e4).g) r4 (p4.bind.mono fun u s5 _ hk v G5 H5 e5 st5 r5 => ?_)
      cases u with
      | bl b => exact hk v G5 H5 (((e1.trans e2).trans e3).trans (e4.trans e5)) st5 r5
      | _ => exact hk.elim
    | false =>
      rw [if_neg Bool.false_ne_true]
      exact hk _ G3 H3 ((e1.trans e2).trans e3) st3 rfl
  | _ => exact hk.elim
theorem de_chain {op op' : CmpOp} {r r' : R2} {f g : D → D → M S D} {a b c : Expr} {τ υ ω : Env → M S D} {pos : Pos} (ho : OpR X (compareOp op) r) (hd : OpD F r f) (ho' : OpR X (compareOp op') r') (hd' : OpD F r' g) (ha : PE X a (tE F τ)) (hb : PE X b (tE F υ)) (hc : PE X c (tE F ω))
    (hm : lastMarks [op, op'] [b, c] = false := by with_unfolding_all rfl) : PE X (.Compare a [op, op'] [b, c] pos) (tE F (chn f g τ υ ω)) := pe_mono (pe_chain ho ho' ha hb hc hm) (tChain_of hd hd')
theorem dt_chain {op op' : CmpOp} {r r' : R2} {f g : D → D → M S D} {a b c : Expr} {τ υ ω : Env → M S D} {pos : Pos} (ho : OpR X (compareOp op) r) (hd : OpD F r f) (ho' : OpR X (compareOp op') r') (hd' : OpD F r' g) (ha : PE X a (tE F τ)) (hb : PE X b (tE F υ)) (hc : PE X c (tE F ω))
    (hm : lastMarks [op, op'] [b, c] = false := by with_unfolding_all rfl) : PT X (.Compare a [op, op'] [b, c] pos) (tT F (asT (chn f g τ υ ω))) :=
  pt_mono (pt_chain ho ho' ha hb hc hm) fun σ H Q ⟨G, env, s, st, p⟩ => by
    refine tChain_of hd hd' σ H _ (seqE st p fun d s1 v G1 H1 e1 st1 r1 p1 => ?_)
    cases d with
    | bl b => exact ⟨b, r1, p1 G1 H1 e1 st1⟩
    | _ => exact p1.elim
/-! ### truth -/
def truD : D → M S Bool
  | .non => pure false
  | .bl b => pure b
  | .int i => pure (i != 0)
  | .str x => grd (x.length ≤ sizeLine) (pure ((x.length : Int) != 0))
  | .lst ds => pure (!ds.isEmpty)
  | .tup ds => pure (!ds.isEmpty)
  | .dct ds => pure (!ds.isEmpty)
  | _ => stk
theorem RepL.isEmpty {C : Cc S} {G : Hp} {ds : List D} {vs : List V} (r : RepL C G ds vs) : vs.isEmpty = ds.isEmpty := by
  have := r.length
  cases ds <;> cases vs <;> simp_all
theorem RepK.length {C : Cc S} {G : Hp} : ∀ {ds : List (Key × D)} {vs : List (Key × V)}, RepK C G ds vs → vs.length = ds.length
  | [], _, r => by rw [r]; rfl
  | (_, _) :: _, _, ⟨v, r, e, _, b⟩ => by rw [e, List.length_cons, List.length_cons, b.length]
theorem SqT.sub {K : PySem.W.Frag} {G H : Hp} {a : Addr} {xs : List V} (e : Same G H) (h : SqT K G a xs) : SqT K H a xs := by
  rcases h with (h | ⟨o, h⟩) | h
  · exact .inl (.inl (e _ _ h))
  · exact .inl (.inr ⟨o, e _ _ h⟩)
  · exact .inr h
/-- one value through truth -/
theorem tru_of {α : Type} {C : Cc S} {G H : Hp} {s : S} {d : D} {v : V} {k : Bool → S → Res S α} {P : α → S → Prop} (hgh : Same G H) (r : Rep C G d v) {F : Fx S} {G1 H1 : Hp} (p : Post F G1 H1 (((truD d : M S Bool) s).bind k) P) :
    ∃ b, TruV C.K v H b ∧ Post F G1 H1 (k b s) P := by
  cases d with
  | non => cases r; exact ⟨_, rfl, p⟩
  | bl b => cases r; exact ⟨_, rfl, p⟩
  | int i => cases r; exact ⟨_, rfl, p⟩
  | str x =>
    cases r
    obtain ⟨h, q⟩ := Post.grd (Post.bind p)
    exact ⟨_, ⟨h, rfl⟩, q⟩
  | lst ds =>
    obtain ⟨a, vs, rfl, q, z, r⟩ := r
    refine ⟨_, .inl ⟨vs, .inl (.inl (hgh _ _ q)), rfl⟩, ?_⟩
    rw [r.isEmpty]; exact p
  | tup ds =>
    obtain ⟨a, vs, rfl, q, z, r⟩ := r
    refine ⟨_, .inr (.inl ⟨vs, SqT.sub hgh q, rfl⟩), ?_⟩
    rw [r.isEmpty]; exact p
  | dct ds =>
    obtain ⟨a, vs, rfl, q, r⟩ := r
    refine ⟨_, .inr (.inr ⟨vs, hgh _ _ q, rfl⟩), ?_⟩
    have e : vs.isEmpty = ds.isEmpty := by
      have := r.length
      cases ds <;> cases vs <;> simp_all
    rw [e]; exact p
  | ins c fs => exact p.elim
  | exc c fs => exact p.elim
  | hnd _ => exact p.elim
  | dks _ => exact p.elim
  | fn _ => exact p.elim
  | adr _ _ => exact p.elim
  | rps _ => exact p.elim
  | scr ns => exact p.elim
def asTr (τ : Env → M S D) : Env → M S Bool := fun env => do truD (← τ env)
/-! ### and, or, not, if -/
def andT (τ υ : Env → M S Bool) : Env → M S Bool := fun env => do if ← τ env then υ env else pure false
def orT (τ υ : Env → M S Bool) : Env → M S Bool := fun env => do if ← τ env then pure true else υ env
def notT (τ : Env → M S Bool) : Env → M S Bool := fun env => do return !(← τ env)
variable {a b c : Expr} {pos : Pos} {rest : List Expr} {op : BoolOp}
theorem dw_and1 {τ : Env → M S Bool} (h : PT X a (tT F τ)) : PW X (.BoolOp .And [a] pos) (tT F τ) := pw_and1 h
theorem dw_or1 {τ : Env → M S Bool} (h : PT X a (tT F τ)) : PW X (.BoolOp .Or [a] pos) (tT F τ) := pw_or1 h
theorem tT_end {τ : Env → M S Bool} {G H G1 H1 : Hp} {σ : L2.St} {env : Env} {s : S} {Q : Bool → Hp → Prop} (e : Ext F.reg G H G1 H1) (st : StG F G1 σ H1 env s) (p : Post F G1 H1 (τ env s) fun b s' => ∀ G' H', Ext F.reg G H G' H' → StG F G' σ H' env s' → Q b H') : tT F τ σ H1 Q :=
  ⟨G1, env, s, st, p.mono fun _ _ _ q G' H' e' => q G' H' (e.trans e')⟩
theorem tE_end {τ : Env → M S D} {G H G1 H1 : Hp} {σ : L2.St} {env : Env} {s : S} {Q : VK} (e : Ext F.reg G H G1 H1) (st : StG F G1 σ H1 env s) (p : Post F G1 H1 (τ env s) (K1 F G H σ env Q)) : tE F τ σ H1 Q :=
  ⟨G1, env, s, st, p.K1 e⟩
theorem dw_and {τ υ : Env → M S Bool} (ha : PT X a (tT F τ)) (hb : PW X (.BoolOp .And (b :: rest) pos) (tT F υ)) : PW X (.BoolOp .And (a :: b :: rest) pos) (tT F (andT τ υ)) :=
  pw_mono (pw_and ha hb) fun σ H Q ⟨G, env, s, st, p⟩ => by
    refine seqT st p fun k s1 G1 H1 e1 st1 p1 => ?_
    cases k with
    | true => rw [if_pos rfl]; exact tT_end e1 st1 p1
    | false => rw [if_neg Bool.false_ne_true]; exact p1 G1 H1 e1 st1
theorem dw_or {τ υ : Env → M S Bool} (ha : PT X a (tT F τ)) (hb : PW X (.BoolOp .Or (b :: rest) pos) (tT F υ)) : PW X (.BoolOp .Or (a :: b :: rest) pos) (tT F (orT τ υ)) :=
  pw_mono (pw_or ha hb) fun σ H Q ⟨G, env, s, st, p⟩ => by
    refine seqT st p fun k s1 G1 H1 e1 st1 p1 => ?_
    cases k with
    | true => rw [if_pos rfl]; exact p1 G1 H1 e1 st1
    | false => rw [if_neg Bool.false_ne_true]; exact tT_end e1 st1 p1
theorem dt_not {τ : Env → M S Bool} (ha : PT X a (tT F τ)) : PT X (.UnaryOp .Not a pos) (tT F (notT τ)) :=
  pt_mono (pt_not ha) fun σ H Q ⟨G, env, s, st, p⟩ => seqT st p fun k s1 G1 H1 e1 st1 p1 => p1 G1 H1 e1 st1
def iteE (t : Env → M S Bool) (τ υ : Env → M S D) : Env → M S D := fun env => do if ← t env then τ env else υ env
theorem de_if {t : Env → M S Bool} {τ υ : Env → M S D} (hc : PT X c (tT F t)) (ha : PE X a (tE F τ)) (hb : PE X b (tE F υ)) : PE X (.IfExp c a b pos) (tE F (iteE t τ υ)) :=
  pe_mono (pe_ifExp hc ha hb) fun σ H Q ⟨G, env, s, st, p⟩ => by
    refine seqT st p fun k s1 G1 H1 e1 st1 p1 => ?_
    cases k with
    | true => rw [if_pos rfl]; exact tE_end e1 st1 p1
    | false => rw [if_neg Bool.false_ne_true]; exact tE_end e1 st1 p1
/-- as values -/
def andV (τ υ : Env → M S D) : Env → M S D := fun env => do
  let x ← τ env
  if ← truD x then υ env else pure x
def orV (τ υ : Env → M S D) : Env → M S D := fun env => do
  let x ← τ env
  if ← truD x then pure x else υ env
def notV (τ : Env → M S D) : Env → M S D := fun env => do return .bl (!(← truD (← τ env)))
theorem de_one {τ : Env → M S D} (h : PE X a (tE F τ)) : PE X (.BoolOp op [a] pos) (tE F τ) := pe_one h
theorem de_and {τ υ : Env → M S D} (hK : X.K = F.K) (ha : PE X a (tE F τ)) (hb : PE X (.BoolOp .And (b :: rest) pos) (tE F υ)) : PE X (.BoolOp .And (a :: b :: rest) pos) (tE F (andV τ υ)) :=
  pe_mono (pe_andT ha hb) fun σ H Q ⟨G, env, s, st, p⟩ => by
    refine seqE st p fun d s1 v G1 H1 e1 st1 r1 p1 => ?_
    obtain ⟨k, hk, pk⟩ := tru_of st1.gd.gh r1 p1
    rw [hK]
    refine ⟨k, hk, ?_⟩
    cases k with
    | true => rw [if_pos rfl]; exact tE_end e1 st1 pk
    | false => rw [if_neg Bool.false_ne_true]; exact pk v G1 H1 e1 st1 r1
theorem de_or {τ υ : Env → M S D} (hK : X.K = F.K) (ha : PE X a (tE F τ)) (hb : PE X (.BoolOp .Or (b :: rest) pos) (tE F υ)) : PE X (.BoolOp .Or (a :: b :: rest) pos) (tE F (orV τ υ)) :=
  pe_mono (pe_orT ha hb) fun σ H Q ⟨G, env, s, st, p⟩ => by
    refine seqE st p fun d s1 v G1 H1 e1 st1 r1 p1 => ?_
    obtain ⟨k, hk, pk⟩ := tru_of st1.gd.gh r1 p1
    rw [hK]
    refine ⟨k, hk, ?_⟩
    cases k with
    | true => rw [if_pos rfl]; exact pk v G1 H1 e1 st1 r1
    | false => rw [if_neg Bool.false_ne_true]; exact tE_end e1 st1 pk
theorem de_not {τ : Env → M S D} (hK : X.K = F.K) (ha : PE X a (tE F τ)) : PE X (.UnaryOp .Not a pos) (tE F (notV τ)) :=
  pe_mono (pe_notT ha) fun σ H Q ⟨G, env, s, st, p⟩ => by
    refine seqE st p fun d s1 v G1 H1 e1 st1 r1 p1 => ?_
    obtain ⟨k, hk, pk⟩ := tru_of st1.gd.gh r1 p1
    rw [hK]
    exact ⟨k, hk, pk _ G1 H1 e1 st1 rfl⟩
/-! ### argument lists, displays -/
def aNil : Env → M S (List D) := fun _ => pure []
def aCons (τ : Env → M S D) (υ : Env → M S (List D)) : Env → M S (List D) := fun env => do
  let x ← τ env
  let xs ← υ env
  pure (x :: xs)
theorem da_nil : PA X [] (tA F aNil) := pa_mono pa_nil fun σ H Q ⟨G, env, s, st, p⟩ => p [] G H (Ext.refl _ _ _) st rfl
theorem da_cons {e : Expr} {es : List Expr} {τ : Env → M S D} {υ : Env → M S (List D)} (ha : PE X e (tE F τ)) (hr : PA X es (tA F υ)) (hs : starEach (e :: es) X.env = (false, eval e X.env) :: starEach es X.env := by rfl) : PA X (e :: es) (tA F (aCons τ υ)) :=
  pa_mono (pa_cons ha hr hs) fun σ H Q ⟨G, env, s, st, p⟩ => by
    refine seqE st p fun d s1 v G1 H1 e1 st1 r1 p1 => ?_
    refine seqA st1 p1 fun ds s2 vs G2 H2 e2 st2 r2 p2 => ?_
    exact p2 (v :: vs) G2 H2 (e1.trans e2) st2 (RepL.cons (r1.mono e2.g) r2)
theorem StG.new {G H : Hp} {σ : L2.St} {env : Env} {s : S} (st : StG F G σ H env s) {p : Addr} (n : H p = none) (o : HO) (ho : NoTbl o := by intro _ h; cases h) : Ext F.reg G H (upd G p o) (upd H p o) ∧ StG F (upd G p o) σ (upd H p o) env s := by
  obtain ⟨g, e⟩ := st.gd.new n o ho
  exact ⟨e, st.ext' e g⟩
def lstD (τ : Env → M S (List D)) : Env → M S D := fun env => do
  let xs ← τ env
  grd (xs.length ≤ sizeLine) (pure (.lst xs))
def tupD (τ : Env → M S (List D)) : Env → M S D := fun env => do
  let xs ← τ env
  grd (xs.length ≤ sizeLine) (pure (.tup xs))
theorem SqT.upd {K : PySem.W.Frag} {G : Hp} {p : Addr} {vs : List V} : SqT K (upd G p (.tup vs)) p vs := .inl (.inl upd_same)
theorem de_lst {es : List Expr} {τ : Env → M S (List D)} (h : PA X es (tA F τ)) : PE X (.List es pos) (tE F (lstD τ)) :=
  pe_mono (pe_lst h) fun σ H Q ⟨G, env, s, st, p⟩ => by
    refine seqA st p fun ds s1 vs G1 H1 e1 st1 r1 p1 => ?_
    obtain ⟨hl, p2⟩ := Post.grd p1
    have hz : vs.length ≤ sizeLine := by rw [r1.length]; exact hl
    refine ⟨hz, fun q nq => ?_⟩
    obtain ⟨e2, st2⟩ := st1.new nq (.lst vs)
    exact p2 _ _ _ (e1.trans e2) st2 ⟨q, vs, rfl, upd_same, hz, r1.mono e2.g⟩
theorem de_tup {es : List Expr} {τ : Env → M S (List D)} {x1} (h : PA X es (tA F τ)) : PE X (.Tuple es x1 pos) (tE F (tupD τ)) :=
  pe_mono (pe_tup h) fun σ H Q ⟨G, env, s, st, p⟩ => by
    refine seqA st p fun ds s1 vs G1 H1 e1 st1 r1 p1 => ?_
    obtain ⟨hl, p2⟩ := Post.grd p1
    have hz : vs.length ≤ sizeLine := by rw [r1.length]; exact hl
    refine ⟨hz, fun q nq => ?_⟩
    obtain ⟨e2, st2⟩ := st1.new nq (.tup vs)
    exact p2 _ _ _ (e1.trans e2) st2 ⟨q, vs, rfl, SqT.upd, hz, r1.mono e2.g⟩
end DL
set_option Elab.async false
set_option linter.all false
set_option maxRecDepth 100000
set_option maxHeartbeats 4000000
set_option autoImplicit false
namespace DL
open PySem PySem.Spec PyProof.Rows L2
variable {S : Type} {X : Cx} {F : Fx S}
/-! ### a name's slot -/
theorem isOwn_set {env : Env} {i j : Nat} {d : D} (h : isOwn (env.set i (some (.val d)))[j]?) : isOwn env[j]? ∧ j ≠ i := by
  by_cases e : i = j
  · subst e
    by_cases hl : i < env.length
    · rw [List.getElem?_set_self hl] at h; exact h.elim
    · rw [List.set_eq_of_length_le (by omega)] at h
      rw [List.getElem?_eq_none (by omega)] at h
      exact h.elim
  · rw [List.getElem?_set_ne e] at h
    exact ⟨h, fun z => e z.symm⟩
theorem RepEnv.set {G H : Hp} {σ : L2.St} {env : Env} {d : D} {v : V} (i : Nat) (h : RepEnv F G H σ env) (r : Rep F.toCc G d v) : RepEnv F G H (σ.set i (some v)) (env.set i (some (.val d))) where
  len := by rw [List.length_set, List.length_set]; exact h.len
  at_ := fun j sl e => by
    by_cases q : i = j
    · subst q
      have hl : i < env.length := by
        by_cases hl : i < env.length
        · exact hl
        · rw [List.set_eq_of_length_le (by omega), List.getElem?_eq_none (by omega)] at e; cases e
      rw [List.getElem?_set_self hl] at e
      cases e
      exact ⟨some v, List.getElem?_set_self (by rw [h.len]; exact hl), v, rfl, r⟩
    · rw [List.getElem?_set_ne q] at e ⊢
      exact h.at_ j sl e
  apart := fun a b n ha hb => by
    obtain ⟨ha, na⟩ := isOwn_set ha
    obtain ⟨hb, nb⟩ := isOwn_set hb
    rw [List.getElem?_set_ne (fun z => na z.symm), List.getElem?_set_ne (fun z => nb z.symm)]
    exact h.apart a b n ha hb
theorem StG.set {G H : Hp} {σ : L2.St} {env : Env} {s : S} {d : D} {v : V} (i : Nat) (st : StG F G σ H env s) (r : Rep F.toCc G d v) : StG F G (σ.set i (some v)) H (env.set i (some (.val d))) s :=
  ⟨st.ext, st.gd, st.env_.set i r⟩
/-- a slot forgotten -/
theorem RepEnv.drop {G H : Hp} {σ : L2.St} {env : Env} (i : Nat) (h : RepEnv F G H σ env) (o : Option V) : RepEnv F G H (σ.set i o) (env.set i none) where
  len := by rw [List.length_set, List.length_set]; exact h.len
  at_ := fun j sl e => by
    by_cases q : i = j
    · subst q
      have hl : i < env.length := by
        by_cases hl : i < env.length
        · exact hl
        · rw [List.set_eq_of_length_le (by omega), List.getElem?_eq_none (by omega)] at e; cases e
      rw [List.getElem?_set_self hl] at e
      cases e
      exact ⟨o, List.getElem?_set_self (by rw [h.len]; exact hl), trivial⟩
    · rw [List.getElem?_set_ne q] at e ⊢
      exact h.at_ j sl e
  apart := fun a b n ha hb => by
    have t : ∀ j, isOwn (env.set i none)[j]? → isOwn env[j]? ∧ i ≠ j := fun j h => by
      by_cases e : i = j
      · subst e
        by_cases hl : i < env.length
        · rw [List.getElem?_set_self hl] at h; exact h.elim
        · rw [List.set_eq_of_length_le (by omega)] at h
          rw [List.getElem?_eq_none (by omega)] at h
          exact h.elim
      · rw [List.getElem?_set_ne e] at h
        exact ⟨h, e⟩
    obtain ⟨ha, na⟩ := t a ha
    obtain ⟨hb, nb⟩ := t b hb
    rw [List.getElem?_set_ne na, List.getElem?_set_ne nb]
    exact h.apart a b n ha hb
/-! ### targets -/
def tG (F : Fx S) (γ : D → Env → M S Env) : TG := fun v σ H Q => ∃ G env s d, StG F G σ H env s ∧ Rep F.toCc G d v ∧
  Post F G H (γ d env s) fun env' s' => ∀ σ' G' H', Same G G' → StG F G' σ' H' env' s' → Q σ' H'
def tGs (F : Fx S) (γ : List D → Env → M S Env) : TGs := fun vs σ H Q => ∃ G env s ds, StG F G σ H env s ∧ RepL F.toCc G ds vs ∧
  Post F G H (γ ds env s) fun env' s' => ∀ σ' G' H', Same G G' → StG F G' σ' H' env' s' → Q σ' H'
theorem pg_mono {tg : Expr} {t t' : TG} (h : PG X tg t) (m : ∀ v σ H Q, t' v σ H Q → t v σ H Q) : PG X tg t' := ⟨fun pins s σ H v u Q I r q => h.run pins s σ H v u Q I r (m v σ H Q q)⟩
theorem pgs_mono {tg : List Expr} {t t' : TGs} (h : PGs X tg t) (m : ∀ v σ H Q, t' v σ H Q → t v σ H Q) : PGs X tg t' := ⟨fun pins s σ H v u Q I r q => h.run pins s σ H v u Q I r (m v σ H Q q)⟩
def gNm (i : Nat) : D → Env → M S Env := fun d env => pure (env.set i (some (.val d)))
theorem dg_name (i : Nat) {tg : Expr} (h : PG X tg (gName i)) : PG X tg (tG F (gNm i)) := pg_mono h fun v σ H Q ⟨G, env, s, d, st, r, p⟩ => p _ G H (Same.refl _) (st.set i r)
def gsNil : List D → Env → M S Env := fun ds env => match ds with
  | [] => pure env
  | _ => stk
def gsCons (γ : D → Env → M S Env) (δ : List D → Env → M S Env) : List D → Env → M S Env := fun ds env => match ds with
  | [] => stk
  | d :: ds => do δ ds (← γ d env)
theorem dgs_nil : PGs X [] (tGs F gsNil) := pgs_mono pgs_nil fun vs σ H Q ⟨G, env, s, ds, st, r, p⟩ => by
  cases ds with
  | nil => exact ⟨r, p σ G H (Same.refl _) st⟩
  | cons d ds => exact p.elim
theorem dgs_cons {e : Expr} {es : List Expr} {γ : D → Env → M S Env} {δ : List D → Env → M S Env} (h1 : PG X e (tG F γ)) (h2 : PGs X es (tGs F δ))
    (hs : (assignEach (e :: es) X.env).map (·.2) = assign e X.env :: (assignEach es X.env).map (·.2) := by rfl) : PGs X (e :: es) (tGs F (gsCons γ δ)) := pgs_mono (pgs_cons h1 h2 hs) fun vs σ H Q ⟨G, env, s, ds, st, r, p⟩ => by
  cases ds with
  | nil => exact p.elim
  | cons d ds =>
    obtain ⟨v, vr, e, ra, rb⟩ := r
    exact ⟨v, vr, e, G, env, s, d, st, ra, Post.mono (Post.bind p) fun env' s' _ hk σ' G' H' e' st' => ⟨G', env', s', ds, st', rb.mono e', (hk.later e').mono fun _ _ _ q σ2 G2 H2 e2 => q σ2 G2 H2 (e'.trans e2)⟩⟩
theorem pg_or {tg : Expr} {t t' : TG} (h : PG X tg t) (h' : PG X tg t') : PG X tg (fun v σ H Q => t v σ H Q ∨ t' v σ H Q) := ⟨fun pins s σ H v u Q I r q => q.elim (h.run pins s σ H v u Q I r) (h'.run pins s σ H v u Q I r)⟩
def gTp (n : Nat) (δ : List D → Env → M S Env) : D → Env → M S Env := fun d env => match d with
  | .tup ds => grd (ds.length = n) (δ ds env)
  | .lst ds => grd (ds.length = n) (δ ds env)
  | _ => stk
theorem dg_tup {es : List Expr} {k n : Nat} {δ : List D → Env → M S Env} {pos : Pos} (hK : X.K = F.K) (hc : X.calm = true) (h : PGs X es (tGs F δ)) (hn : (assignEach es X.env).length = n := by rfl) (hst : (assignEach es X.env).findIdx? (·.1) = none := by rfl) :
    PG X (.Tuple es k pos) (tG F (gTp n δ)) := pg_mono (pg_or (pg_tup hc h hn hst) (pg_unl hc h hn hst)) fun v σ H Q ⟨G, env, s, d, st, r, p⟩ => by
  cases d with
  | tup ds =>
    obtain ⟨a, vs, e, q, z, rl⟩ := r
    obtain ⟨hl, p⟩ := Post.grd p
    exact .inl ⟨a, vs, e, hK ▸ SqT.sub st.gd.gh q, by rw [rl.length]; exact hl, G, env, s, ds, st, rl, p⟩
  | lst ds =>
    obtain ⟨a, vs, e, q, z, rl⟩ := r
    obtain ⟨hl, p⟩ := Post.grd p
    exact .inr ⟨a, vs, e, .inl (.inl (st.gd.gh _ _ q)), by rw [rl.length]; exact hl, G, env, s, ds, st, rl, p⟩
  | _ => exact p.elim
/-! ### statements -/
def sNx : Env → M S Flw := fun env => pure (.nx env)
def sBk : Env → M S Flw := fun env => pure (.bk env)
def sCt : Env → M S Flw := fun env => pure (.ct env)
def sSeq (τ υ : Env → M S Flw) : Env → M S Flw := fun env => do
  match ← τ env with
  | .nx e => υ e
  | f => pure f
def sRet (τ : Env → M S D) : Env → M S Flw := fun env => do return .rt (← τ env)
def sDrop (τ : Env → M S D) : Env → M S Flw := fun env => do
  let _ ← τ env
  pure (.nx env)
def sAsg (τ : Env → M S D) (γ : D → Env → M S Env) : Env → M S Flw := fun env => do
  let d ← τ env
  return .nx (← γ d env)
def sIf (t : Env → M S Bool) (τ υ : Env → M S Flw) : Env → M S Flw := fun env => do if ← t env then τ env else υ env
def sNo : Env → M S Flw := fun _ => stk
variable {st : Stmt} {sts : List Stmt} {pos : Pos}
theorem ds_no : PS X st (tS F sNo) := ⟨fun _ _ _ _ _ _ ⟨_, _, _, _, p⟩ => p.elim⟩
theorem dss_nil : PSs X [] (tS F sNx) := pss_mono pss_nil fun D σ H ⟨G, env, s, st, p⟩ => p σ G H (Same.refl _) st
theorem dss_one {τ : Env → M S Flw} (h : PS X st (tS F τ)) : PSs X [st] (tS F τ) := pss_one h
theorem tSeq_of {τ υ : Env → M S Flw} (D : Ends) (σ : L2.St) (H : Hp) (h : tS F (sSeq τ υ) D σ H) : tSeq (tS F τ) (tS F υ) D σ H := by
  obtain ⟨G, env, s, st, p⟩ := h
  refine ⟨G, env, s, st, Post.mono (Post.bind p) fun fl s1 _ hk => ?_⟩
  cases fl with
  | nx e => exact fun σ' G' H' e' st' => ⟨G', e, s1, st', (hk.later e').mono fun _ _ _ q => q.later e'⟩
  | rt d => exact hk
  | bk e => exact hk
  | ct e => exact hk
theorem dss_cons {τ υ : Env → M S Flw} (h1 : PS X st (tS F τ)) (h2 : PSs X sts (tS F υ)) : PSs X (st :: sts) (tS F (sSeq τ υ)) := pss_mono (pss_cons h1 h2) tSeq_of
theorem ds_ret {e : Expr} {τ : Env → M S D} (he : PE X e (tE F τ)) : PS X (.Return (some e) pos) (tS F (sRet τ)) := ps_mono (ps_ret he) fun D σ H ⟨G, env, s, st, p⟩ =>
  seqE st p fun d s1 v G1 H1 e1 st1 r1 p1 => p1 v G1 H1 e1.g st1.ext st1.gd r1
def sRetN : Env → M S Flw := fun _ => pure (.rt .non)
theorem ds_expr {e : Expr} {τ : Env → M S D} (he : PE X e (tE F τ)) (hs : swapsWith e none pos.line X.env = pure false := by rfl) : PS X (.Expr e pos) (tS F (sDrop τ)) := ps_mono (ps_expr he hs) fun D σ H ⟨G, env, s, st, p⟩ =>
  seqE st p fun d s1 v G1 H1 e1 st1 r1 p1 => p1 σ G1 H1 e1.g st1
theorem ds_asg {tg e : Expr} {τ : Env → M S D} {γ : D → Env → M S Env} (he : PE X e (tE F τ)) (hg : PG X tg (tG F γ)) (hs : swapsWithSole [tg] e pos.line X.env = pure false := by rfl) (hw : swappedStores [tg] e X.env = pure none := by rfl)
    (h1 : (assignEach [tg] X.env).map (·.2) = [assign tg X.env] := by rfl) : PS X (.Assign [tg] e pos) (tS F (sAsg τ γ)) := ps_mono (ps_asg he hg hs hw h1) fun D σ H ⟨G, env, s, st, p⟩ =>
  seqE st p fun d s1 v G1 H1 e1 st1 r1 p1 => ⟨G1, env, s1, d, st1, r1, Post.mono (Post.bind p1) fun env' s2 _ hk σ' G' H' e' st' => hk σ' G' H' (e1.g.trans e') st'⟩
def sPar (i j : Nat) (τ : Env → M S (List D)) : Env → M S Flw := fun env => do
  match ← τ env with
  | [x, y] => pure (.nx ((env.set i (some (.val x))).set j (some (.val y))))
  | _ => stk
theorem ds_par {i j : Nat} {x y : Str} {a b : Expr} {τ : Env → M S (List D)} {px py pt : Pos} {kt k2 pt2} (hc : X.calm = true) (hN : X.N.Nodup) (hi : X.N[i]? = some x) (hj : X.N[j]? = some y) (hij : i ≠ j)
    (hx : X.env.scope.names.lookup x = some .local) (hy : X.env.scope.names.lookup y = some .local) (ha : PA X [a, b] (tA F τ))
    (hw : swappedStores [.Tuple [.Name x px, .Name y py] kt pt] (.Tuple [a, b] k2 pt2) X.env = pure (some [x, y]))
    (hs : swapsWithSole [.Tuple [.Name x px, .Name y py] kt pt] (.Tuple [a, b] k2 pt2) pos.line X.env = pure false := by rfl) :
    PS X (.Assign [.Tuple [.Name x px, .Name y py] kt pt] (.Tuple [a, b] k2 pt2) pos) (tS F (sPar i j τ)) := ps_mono (ps_par hc hN hi hj hij hx hy ha hw hs) fun D σ H ⟨G, env, s, st, p⟩ => by
  refine seqA st p fun ds s1 vs G1 H1 e1 st1 r1 p1 => ?_
  match ds, p1, r1 with
  | [x, y], p1, ⟨v, _, e, ra, w, _, e', rb, e''⟩ =>
    subst e e' e''
    exact ⟨v, w, rfl, p1 _ G1 H1 e1.g ((st1.set i ra).set j rb)⟩
  | [], p1, _ => exact p1.elim
  | [_], p1, _ => exact p1.elim
  | _ :: _ :: _ :: _, p1, _ => exact p1.elim
theorem ds_if {c : Expr} {a b : List Stmt} {t : Env → M S Bool} {τ υ : Env → M S Flw} (hc : PT X c (tT F t)) (ha : PSs X a (tS F τ)) (hb : PSs X b (tS F υ)) : PS X (.If c a b pos) (tS F (sIf t τ υ)) := ps_mono (ps_if hc ha hb) fun D σ H ⟨G, env, s, st, p⟩ => by
  refine seqT st p fun k s1 G1 H1 e1 st1 p1 => ?_
  cases k with
  | true => rw [if_pos rfl]; exact ⟨G1, env, s1, st1, Post.mono p1 fun _ _ _ q => q.later e1.g⟩
  | false => rw [if_neg Bool.false_ne_true]; exact ⟨G1, env, s1, st1, Post.mono p1 fun _ _ _ q => q.later e1.g⟩
/-! ### while -/
def whl (c : Env → M S Bool) (b : Env → M S Flw) : Nat → Env → M S Flw
  | 0, _ => stk
  | n + 1, env => do
    if ← c env then
      match ← b env with
      | .nx e => whl c b n e
      | .ct e => whl c b n e
      | .bk e => pure (.nx e)
      | .rt d => pure (.rt d)
    else pure (.nx env)
theorem whl_mono {c : Env → M S Bool} {b : Env → M S Flw} : ∀ (n : Nat) (env : Env) (s : S), whl c b n env s ≠ .stk → whl c b (n + 1) env s = whl c b n env s
  | 0, env, s, h => absurd rfl h
  | n + 1, env, s, h => by
    have ih := whl_mono (c := c) (b := b) n
    show ((c env s).bind _) = ((c env s).bind _)
    have h : ((c env s).bind _) ≠ .stk := h
    cases q : c env s with
    | ok k s1 =>
      rw [q] at h
      cases k with
      | false => rfl
      | true =>
        show ((b env s1).bind _) = ((b env s1).bind _)
        have h : ((b env s1).bind _) ≠ .stk := h
        cases q2 : b env s1 with
        | ok fl s2 =>
          rw [q2] at h
          cases fl with
          | nx e => exact ih e s2 h
          | ct e => exact ih e s2 h
          | bk e => rfl
          | rt d => rfl
        | err x s2 => rfl
        | stk => rfl
    | err x s1 => rfl
    | stk => rfl
theorem whl_le {c : Env → M S Bool} {b : Env → M S Flw} {n m : Nat} (hm : n ≤ m) {env : Env} {s : S} (h : whl c b n env s ≠ .stk) : whl c b m env s = whl c b n env s := by
  induction hm with
  | refl => rfl
  | step _ ih => rw [whl_mono _ env s (by rw [ih]; exact h), ih]
open Classical in
/-- while c: b -/
noncomputable def sWhl (c : Env → M S Bool) (b : Env → M S Flw) : Env → M S Flw := fun env s => if h : ∃ n, whl c b n env s ≠ .stk then whl c b h.choose env s else .stk
theorem sWhl_of {c : Env → M S Bool} {b : Env → M S Flw} (n : Nat) {env : Env} {s : S} (h : whl c b n env s ≠ .stk) : sWhl c b env s = whl c b n env s := by
  have hx : ∃ n, whl c b n env s ≠ .stk := ⟨n, h⟩
  unfold sWhl
  rw [dif_pos hx]
  rcases Nat.le_total n hx.choose with l | l
  · exact whl_le l h
  · exact (whl_le l hx.choose_spec).symm
/-- one turn -/
theorem sWhl_eq (c : Env → M S Bool) (b : Env → M S Flw) (env : Env) (s : S) : sWhl c b env s = ((do
    if ← c env then
      match ← b env with
      | .nx e => sWhl c b e
      | .ct e => sWhl c b e
      | .bk e => pure (.nx e)
      | .rt d => pure (.rt d)
    else pure (.nx env) : M S Flw) s) := by
  by_cases hx : ∃ n, whl c b n env s ≠ .stk
  · obtain ⟨n, h⟩ := hx
    rw [sWhl_of n h]
    cases n with
    | zero => exact absurd rfl h
    | succ n =>
      show ((c env s).bind _) = ((c env s).bind _)
      have h : ((c env s).bind _) ≠ .stk := h
      cases q : c env s with
      | ok k s1 =>
        rw [q] at h
        cases k with
        | false => rfl
        | true =>
          show ((b env s1).bind _) = ((b env s1).bind _)
          have h : ((b env s1).bind _) ≠ .stk := h
          cases q2 : b env s1 with
          | ok fl s2 =>
            rw [q2] at h
            cases fl with
            | nx e => exact (sWhl_of n (env := e) (s := s2) h).symm
            | ct e => exact (sWhl_of n (env := e) (s := s2) h).symm
            | bk e => rfl
            | rt d => rfl
          | err x s2 => rfl
          | stk => rfl
      | err x s1 => rfl
      | stk => rfl
  · have e : sWhl c b env s = .stk := by unfold sWhl; rw [dif_neg hx]
    rw [e]
    have all : ∀ n, whl c b n env s = .stk := fun n => Classical.byContradiction fun z => hx ⟨n, z⟩
    have a1 : ∀ n, ((c env s).bind fun k s' => (if k = true then (do
      match ← b env with
      | .nx e => whl c b n e
      | .ct e => whl c b n e
      | .bk e => pure (.nx e)
      | .rt d => pure (.rt d)) else pure (.nx env) : M S Flw) s') = .stk := fun n => all (n + 1)
    show Res.stk = ((c env s).bind _)
    cases q : c env s with
    | ok k s1 =>
      simp only [q] at a1
      cases k with
      | false => exact nomatch (a1 0)
      | true =>
        show Res.stk = ((b env s1).bind _)
        have a2 : ∀ n, ((b env s1).bind fun f s' => (match f with
          | .nx e => whl c b n e
          | .ct e => whl c b n e
          | .bk e => pure (.nx e)
          | .rt d => pure (.rt d) : M S Flw) s') = .stk := a1
        cases q2 : b env s1 with
        | ok fl s2 =>
          simp only [q2] at a2
          cases fl with
          | nx e =>
            show Res.stk = sWhl c b e s2
            unfold sWhl
            rw [dif_neg (fun ⟨n, z⟩ => z (a2 n))]
          | ct e =>
            show Res.stk = sWhl c b e s2
            unfold sWhl
            rw [dif_neg (fun ⟨n, z⟩ => z (a2 n))]
          | bk e => exact nomatch (a2 0)
          | rt d => exact nomatch (a2 0)
        | err x s2 => simp only [q2] at a2; exact nomatch (a2 0)
        | stk => rfl
    | err x s1 => simp only [q] at a1; exact nomatch (a1 0)
    | stk => rfl
theorem ds_while {c : Expr} {body : List Stmt} {t : Env → M S Bool} {τ : Env → M S Flw} (hp : PassesOwn (model X.prog X.w) X.A X.env X.xe) (hc : PT X c (tT F t)) (hb : PSs X body (tS F τ)) : PS X (.While c body [] pos) (tS F (sWhl t τ)) := ps_mono (ps_while hp hc hb) fun D σ H ⟨G, env, s, st, p⟩ => by
  have hx : ∃ n, whl t τ n env s ≠ .stk := Classical.byContradiction fun z => by
    unfold sWhl at p
    rw [dif_neg z] at p
    exact p
  obtain ⟨n, hn⟩ := hx
  rw [sWhl_of n hn] at p
  refine ⟨fun m σ H => ∃ G env s, StG F G σ H env s ∧ Post F G H (whl t τ m env s) (FP F G D), ⟨n, G, env, s, st, p⟩, ?_⟩
  rintro m σ H ⟨G, env, s, st, p⟩
  cases m with
  | zero => exact p.elim
  | succ m =>
    refine seqT st p fun k s1 G1 H1 e1 st1 p1 => ?_
    cases k with
    | false => rw [if_neg Bool.false_ne_true]; exact p1 σ G1 H1 e1.g st1
    | true =>
      rw [if_pos rfl]
      refine ⟨fun σ' H' => ∃ G env s, StG F G σ' H' env s ∧ Post F G H' (whl t τ m env s) (FP F G D), fun σ' H' h => ⟨m, Nat.lt_succ_self m, h⟩, ?_⟩
      refine ⟨G1, env, s1, st1, Post.mono (Post.bind p1) fun fl s2 _ hk => ?_⟩
      cases fl with
      | nx e => exact fun σ' G' H' e' st' => ⟨G', e, s2, st', (hk.later e').mono fun _ _ _ q => q.later (e1.g.trans e')⟩
      | ct e => exact fun σ' G' H' e' st' => ⟨G', e, s2, st', (hk.later e').mono fun _ _ _ q => q.later (e1.g.trans e')⟩
      | bk e => exact fun σ' G' H' e' st' => hk σ' G' H' (e1.g.trans e') st'
      | rt d => exact fun v G' H' e' => hk v G' H' (e1.g.trans e')
/-! ### what is walked -/
def ItD (F : Fx S) (G : Hp) (J : It) (ds : List D) : Prop := ∀ G' H' s, Same G G' → Gd F.toCc G' H' s →
  (∀ (i : Nat) (d : D), ds[i]? = some d → J.go i H' ∧ ∀ x H2, J.yld i H' x H2 → ∃ G2, Ext F.reg G' H' G2 H2 ∧ Gd F.toCc G2 H2 s ∧ Rep F.toCc G2 d x) ∧ (∀ i, ds.length ≤ i → J.stop i H')
def tI (F : Fx S) (ι : Env → M S (List D)) : TI := fun σ H R => ∃ G env s, StG F G σ H env s ∧
  Post F G H (ι env s) fun ds s' => ∀ J G' H', Ext F.reg G H G' H' → StG F G' σ H' env s' → ItD F G' J ds → R J H'
theorem pi_mono {tg e : Expr} {t t' : TI} (h : PI X tg e t) (m : ∀ σ H R, t' σ H R → t σ H R) : PI X tg e t' := ⟨fun pins s σ H R I q => h.run pins s σ H R I (m σ H R q)⟩
theorem pi_or {tg e : Expr} {t t' : TI} (h : PI X tg e t) (h' : PI X tg e t') : PI X tg e (fun σ H R => t σ H R ∨ t' σ H R) := ⟨fun pins s σ H R I q => q.elim (h.run pins s σ H R I) (h'.run pins s σ H R I)⟩
def iSq (τ : Env → M S D) : Env → M S (List D) := fun env => do
  match ← τ env with
  | .lst ds => pure ds
  | .tup ds => pure ds
  | .scr ns => pure (ns.map .int)
  | _ => stk
theorem itd_list {G : Hp} {a : Addr} {vs : List V} {ds : List D} (q0 : G a = some (.lst vs)) (r : RepL F.toCc G ds vs) : ItD F G (Itl F.K a) ds := fun G' H' s e g => by
  have q' : SqL F.K H' a vs := .inl (.inl (g.gh _ _ (e _ _ q0)))
  refine ⟨fun i d hd => ?_, fun i hi => ⟨vs, q', by rw [r.length]; exact hi⟩⟩
  obtain ⟨v, hv, rv⟩ := r.get hd
  refine ⟨⟨vs, v, q', hv⟩, fun x H2 y => ?_⟩
  obtain ⟨rfl, y⟩ := y
  have z := y vs q'
  rw [hv] at z
  cases z
  exact ⟨G', Ext.refl _ _ _, g, rv.mono e⟩
theorem itd_scr {G : Hp} {a : Addr} {ns : List Int} (q : SqL F.K G a (ns.map V.int)) : ItD F G (Itl F.K a) (ns.map D.int) := fun G' H' s e g => by
  have q' : SqL F.K H' a (ns.map V.int) := g.gh.seq (e.seq q)
  refine ⟨fun i d hd => ?_, fun i hi => ⟨_, q', by rw [List.length_map] at hi ⊢; exact hi⟩⟩
  rw [List.getElem?_map] at hd
  obtain ⟨n, hn, rfl⟩ := Option.map_eq_some_iff.mp hd
  have hv : (ns.map V.int)[i]? = some (.int n) := by rw [List.getElem?_map, hn]; rfl
  refine ⟨⟨_, _, q', hv⟩, fun x H2 y => ?_⟩
  obtain ⟨rfl, y⟩ := y
  have z := y _ q'
  rw [hv] at z
  cases z
  exact ⟨G', Ext.refl _ _ _, g, rfl⟩
theorem itd_tup {G : Hp} {a : Addr} {vs : List V} {ds : List D} (q : SqT F.K G a vs) (r : RepL F.toCc G ds vs) : ItD F G (Itt F.K a) ds := fun G' H' s e g => by
  have q' : SqT F.K H' a vs := SqT.sub g.gh (SqT.sub e q)
  refine ⟨fun i d hd => ?_, fun i hi => ⟨vs, q', by rw [r.length]; exact hi⟩⟩
  obtain ⟨v, hv, rv⟩ := r.get hd
  refine ⟨⟨vs, v, q', hv⟩, fun x H2 y => ?_⟩
  obtain ⟨rfl, y⟩ := y
  have z := y vs q'
  rw [hv] at z
  cases z
  exact ⟨G', Ext.refl _ _ _, g, rv.mono e⟩
theorem di_seq {tg l : Expr} {τ : Env → M S D} (hK : X.K = F.K) (hl : PE X l (tE F τ)) : PI X tg l (tI F (iSq τ)) := pi_mono (pi_or (pi_list hl) (pi_tup hl)) fun σ H R ⟨G, env, s, st, p⟩ => by
  have p : Post F G H ((τ env s).bind fun d s' => (match d with
    | .lst ds => pure ds
    | .tup ds => pure ds
    | .scr ns => pure (ns.map .int)
    | _ => stk : M S (List D)) s') _ := p
  cases q : τ env s with
  | stk => rw [q] at p; exact p.elim
  | err x s1 => rw [q] at p; exact .inl ⟨G, env, s, st, by rw [q]; exact p⟩
  | ok d s1 =>
    rw [q] at p
    cases d with
    | lst ds =>
      refine .inl ⟨G, env, s, st, ?_⟩
      rw [q]
      rintro v G' H' e' st' ⟨a, vs, rfl, hq, hz, r⟩
      exact ⟨a, rfl, ⟨vs, .inl (.inl (st'.gd.gh _ _ hq))⟩, p _ G' H' e' st' (hK ▸ itd_list hq r)⟩
    | tup ds =>
      refine .inr ⟨G, env, s, st, ?_⟩
      rw [q]
      rintro v G' H' e' st' ⟨a, vs, rfl, hq, hz, r⟩
      exact ⟨a, rfl, ⟨vs, hK ▸ SqT.sub st'.gd.gh hq⟩, p _ G' H' e' st' (hK ▸ itd_tup hq r)⟩
    | scr ns =>
      refine .inl ⟨G, env, s, st, ?_⟩
      rw [q]
      rintro v G' H' e' st' ⟨a, rfl, hq⟩
      exact ⟨a, rfl, ⟨_, hK ▸ st'.gd.gh.seq hq⟩, p _ G' H' e' st' (hK ▸ itd_scr hq)⟩
    | _ => exact p.elim
def rngD (lo hi : Int) : List D := (List.range (hi - lo).toNat).map fun (i : Nat) => .int (lo + i)
theorem rngD_length (lo hi : Int) : (rngD lo hi).length = (hi - lo).toNat := by unfold rngD; rw [List.length_map, List.length_range]
theorem itd_rng {G : Hp} (lo hi : Int) : ItD F G (Itr lo (hi - lo).toNat) (rngD lo hi) := fun G' H' s e g => by
  refine ⟨fun i d hd => ?_, fun i h => by rw [rngD_length] at h; exact h⟩
  have hi' : i < (hi - lo).toNat := by rw [← rngD_length]; exact (List.getElem?_eq_some_iff.mp hd).1
  refine ⟨hi', fun x H2 y => ?_⟩
  obtain ⟨rfl, rfl⟩ := y
  unfold rngD at hd
  rw [List.getElem?_map, List.getElem?_range hi'] at hd
  cases hd
  exact ⟨G', Ext.refl _ _ _, g, rfl⟩
def iR1 (τ : Env → M S (List D)) : Env → M S (List D) := fun env => do
  match ← τ env with
  | [.int j] => grd (-(2 ^ 62) ≤ j ∧ j < 2 ^ 62) (pure (rngD 0 j))
  | _ => stk
theorem di_range1 {tg a : Expr} {τ : Env → M S (List D)} {p pos : Pos} (hg : Gl X "range") (hm : X.mg "range" = none) (ha : PA X [a] (tA F τ)) (hs : starEach [a] X.env = [(false, eval a X.env)] := by rfl) : PI X tg (.Call (.Name "range" p) [a] [] pos) (tI F (iR1 τ)) :=
  pi_mono (pi_range1 hg hm ha hs) fun σ H R ⟨G, env, s, st, p⟩ => by
    refine seqA st p fun ds s1 vs G1 H1 e1 st1 r1 p1 => ?_
    match ds, p1, r1 with
    | [.int j], p1, ⟨_, _, e, rfl, e'⟩ =>
      subst e e'
      obtain ⟨h, p2⟩ := Post.grd p1
      refine ⟨j, rfl, h.1, h.2, p2 _ G1 H1 e1 st1 ?_⟩
      have := itd_rng (F := F) (G := G1) 0 j
      simpa using this
    | [], p1, _ => exact p1.elim
    | .non :: _, p1, _ => exact p1.elim
    | .bl _ :: _, p1, _ => exact p1.elim
    | .str _ :: _, p1, _ => exact p1.elim
    | .lst _ :: _, p1, _ => exact p1.elim
    | .tup _ :: _, p1, _ => exact p1.elim
    | .dct _ :: _, p1, _ => exact p1.elim
    | .ins _ _ :: _, p1, _ => exact p1.elim
    | .exc _ _ :: _, p1, _ => exact p1.elim
    | .hnd _ :: _, p1, _ => exact p1.elim
    | .dks _ :: _, p1, _ => exact p1.elim
    | .fn _ :: _, p1, _ => exact p1.elim
    | .adr _ _ :: _, p1, _ => exact p1.elim
    | .rps _ :: _, p1, _ => exact p1.elim
    | .scr _ :: _, p1, _ => exact p1.elim
    | .int _ :: _ :: _, p1, _ => exact p1.elim
end DL
set_option Elab.async false
set_option linter.all false
set_option maxRecDepth 100000
set_option maxHeartbeats 4000000
set_option autoImplicit false
namespace DL
open PySem PySem.Spec PyProof.Rows L2
variable {S : Type} {X : Cx} {F : Fx S}
/-! ### forms of data, forms of arguments -/
section
variable {α : Type}
def onInt (k : Int → M S α) : D → M S α
  | .int i => k i
  | _ => stk
def onBl (k : Bool → M S α) : D → M S α
  | .bl i => k i
  | _ => stk
def onLst (k : List D → M S α) : D → M S α
  | .lst i => k i
  | _ => stk
def onTup (k : List D → M S α) : D → M S α
  | .tup i => k i
  | _ => stk
def onSeq (k : List D → M S α) : D → M S α
  | .lst i => k i
  | .tup i => k i
  | _ => stk
def onIns (k : Str → List (Str × D) → M S α) : D → M S α
  | .ins c fs => k c fs
  | _ => stk
def a1 (k : D → M S α) : List D → M S α
  | [d] => k d
  | _ => stk
def a2 (k : D → D → M S α) : List D → M S α
  | [d, e] => k d e
  | _ => stk
def a3 (k : D → D → D → M S α) : List D → M S α
  | [d, e, f] => k d e f
  | _ => stk
variable {G H : Hp} {s : S} {P : α → S → Prop}
theorem Post.onInt {k : Int → M S α} {d : D} (p : Post F G H (DL.onInt k d s) P) : ∃ i, d = .int i ∧ Post F G H (k i s) P := by
  cases d <;> first | exact ⟨_, rfl, p⟩ | exact p.elim
theorem Post.onBl {k : Bool → M S α} {d : D} (p : Post F G H (DL.onBl k d s) P) : ∃ i, d = .bl i ∧ Post F G H (k i s) P := by
  cases d <;> first | exact ⟨_, rfl, p⟩ | exact p.elim
theorem Post.onLst {k : List D → M S α} {d : D} (p : Post F G H (DL.onLst k d s) P) : ∃ i, d = .lst i ∧ Post F G H (k i s) P := by
  cases d <;> first | exact ⟨_, rfl, p⟩ | exact p.elim
theorem Post.onSeq {k : List D → M S α} {d : D} (p : Post F G H (DL.onSeq k d s) P) : ∃ i, (d = .lst i ∨ d = .tup i) ∧ Post F G H (k i s) P := by
  cases d <;> first | exact ⟨_, .inl rfl, p⟩ | exact ⟨_, .inr rfl, p⟩ | exact p.elim
theorem Post.onIns {k : Str → List (Str × D) → M S α} {d : D} (p : Post F G H (DL.onIns k d s) P) : ∃ c fs, d = .ins c fs ∧ Post F G H (k c fs s) P := by
  cases d <;> first | exact ⟨_, _, rfl, p⟩ | exact p.elim
theorem Post.a1 {k : D → M S α} {ds : List D} (p : Post F G H (DL.a1 k ds s) P) : ∃ d, ds = [d] ∧ Post F G H (k d s) P := by
  match ds, p with
  | [d], p => exact ⟨d, rfl, p⟩
  | [], p => exact p.elim
  | _ :: _ :: _, p => exact p.elim
theorem Post.a2 {k : D → D → M S α} {ds : List D} (p : Post F G H (DL.a2 k ds s) P) : ∃ d e, ds = [d, e] ∧ Post F G H (k d e s) P := by
  match ds, p with
  | [d, e], p => exact ⟨d, e, rfl, p⟩
  | [], p => exact p.elim
  | [_], p => exact p.elim
  | _ :: _ :: _ :: _, p => exact p.elim
end
theorem RepL.r1 {C : Cc S} {G : Hp} {d : D} {vs : List V} (r : RepL C G [d] vs) : ∃ v, vs = [v] ∧ Rep C G d v := by
  obtain ⟨v, _, e, a, e'⟩ := r
  subst e e'
  exact ⟨v, rfl, a⟩
theorem RepL.r2 {C : Cc S} {G : Hp} {d e : D} {vs : List V} (r : RepL C G [d, e] vs) : ∃ v w, vs = [v, w] ∧ Rep C G d v ∧ Rep C G e w := by
  obtain ⟨v, _, e, a, b⟩ := r
  obtain ⟨w, rfl, q⟩ := b.r1
  subst e
  exact ⟨v, w, rfl, a, q⟩
/-! ### range(a, b) -/
def iR2 (τ : Env → M S (List D)) : Env → M S (List D) := fun env => do a2 (fun d e => onInt (fun i => onInt (fun j => grd (-(2 ^ 62) ≤ i ∧ i < 2 ^ 62 ∧ -(2 ^ 62) ≤ j ∧ j < 2 ^ 62) (pure (rngD i j))) e) d) (← τ env)
theorem di_range2 {tg a b : Expr} {τ : Env → M S (List D)} {p pos : Pos} (hg : Gl X "range") (hm : X.mg "range" = none) (ha : PA X [a, b] (tA F τ)) (hs : starEach [a, b] X.env = [(false, eval a X.env), (false, eval b X.env)] := by rfl) (hs2 : starEach [b] X.env = [(false, eval b X.env)] := by rfl) :
    PI X tg (.Call (.Name "range" p) [a, b] [] pos) (tI F (iR2 τ)) :=
  pi_mono (pi_range2 hg hm ha hs hs2) fun σ H R ⟨G, env, s, st, p⟩ => by
    refine seqA st p fun ds s1 vs G1 H1 e1 st1 r1 p1 => ?_
    obtain ⟨d, e, rfl, p1⟩ := Post.a2 p1
    obtain ⟨i, rfl, p1⟩ := p1.onInt
    obtain ⟨j, rfl, p1⟩ := p1.onInt
    obtain ⟨h, p1⟩ := p1.grd
    obtain ⟨v, w, rfl, ra, rb⟩ := r1.r2
    cases ra
    cases rb
    exact ⟨i, j, rfl, h, p1 _ G1 H1 e1 st1 (itd_rng i j)⟩
/-! ### for -/
def forL (γ : D → Env → M S Env) (τ : Env → M S Flw) : List D → Env → M S Flw
  | [], env => pure (.nx env)
  | x :: xs, env => do
    let env1 ← γ x env
    match ← τ env1 with
    | .nx e => forL γ τ xs e
    | .ct e => forL γ τ xs e
    | .bk e => pure (.nx e)
    | .rt d => pure (.rt d)
def sFor (ι : Env → M S (List D)) (γ : D → Env → M S Env) (τ : Env → M S Flw) : Env → M S Flw := fun env => do forL γ τ (← ι env) env
theorem ds_for {tg iter : Expr} {body : List Stmt} {ι : Env → M S (List D)} {γ : D → Env → M S Env} {τ : Env → M S Flw} {pos : Pos} (hp : PassesOwn (model X.prog X.w) X.A X.env X.xe) (hc : X.calm = true) (hi : PI X tg iter (tI F ι)) (hg : PG X tg (tG F γ)) (hb : PSs X body (tS F τ))
    (hs : ∀ x, foldedSetIterable iter X.env x = pure x := by intro _; rfl) : PS X (.For tg iter body [] pos) (tS F (sFor ι γ τ)) := ps_mono (ps_for hp hc hi hg hb hs) fun D σ H ⟨G, env, s, st, p⟩ => by
  refine ⟨G, env, s, st, (Post.bind p).mono fun ds s1 _ hk J G1 H1 e1 st1 it => ?_⟩
  refine ⟨fun i m σ H => m = ds.length - i ∧ ∃ G env s, Same G1 G ∧ StG F G σ H env s ∧ Post F G H (forL γ τ (ds.drop i) env s) (FP F G D),
    ⟨_, rfl, G1, env, s1, Same.refl _, st1, (hk.later e1.g).mono fun _ _ _ q => q.later e1.g⟩, ?_⟩
  rintro i m σ' H' ⟨rfl, G', env', s', sg, st', p'⟩
  obtain ⟨go, stop⟩ := it G' H' s' sg st'.gd
  by_cases hi : i < ds.length
  · obtain ⟨g, y⟩ := go i ds[i] (by simp [hi])
    refine .inr ⟨g, fun σ2 H2 => ∃ G env s, Same G1 G ∧ StG F G σ2 H2 env s ∧ Post F G H2 (forL γ τ (ds.drop (i + 1)) env s) (FP F G D), fun σ2 H2 h => ⟨_, by omega, rfl, h⟩, fun x H2 hy => ?_⟩
    obtain ⟨G2, e2, g2, r2⟩ := y x H2 hy
    have st2 := st'.ext' e2 g2
    rw [List.drop_eq_getElem_cons hi] at p'
    refine ⟨G2, env', s', ds[i], st2, r2, (Post.bind (p'.later e2.g)).mono fun env3 s3 _ hk3 σ3 G3 H3 e3 st3 => ?_⟩
    refine ⟨G3, env3, s3, st3, (Post.bind (hk3.later e3)).mono fun fl s4 _ hk4 => ?_⟩
    cases fl with
    | nx e => exact fun σ4 G4 H4 e4 st4 => ⟨G4, e, s4, ((sg.trans e2.g).trans e3).trans e4, st4, (hk4.later e4).mono fun _ _ _ q => q.later ((e2.g.trans e3).trans e4)⟩
    | ct e => exact fun σ4 G4 H4 e4 st4 => ⟨G4, e, s4, ((sg.trans e2.g).trans e3).trans e4, st4, (hk4.later e4).mono fun _ _ _ q => q.later ((e2.g.trans e3).trans e4)⟩
    | bk e => exact fun σ4 G4 H4 e4 st4 => hk4 σ4 G4 H4 ((e2.g.trans e3).trans e4) st4
    | rt d => exact fun v G4 H4 e4 => hk4 v G4 H4 ((e2.g.trans e3).trans e4)
  · rw [List.drop_eq_nil_of_le (by omega)] at p'
    exact .inl ⟨stop i (by omega), p' σ' G' H' (Same.refl _) st'⟩
/-! ### list comprehensions -/
def wipeE (env : Env) : List Nat → Env
  | [] => env
  | v :: vs => (wipeE env vs).set v none
theorem RepEnv.wipe {G H : Hp} {σ : L2.St} {env : Env} (h : RepEnv F G H σ env) : ∀ vs, RepEnv F G H (wipe σ vs) (wipeE env vs)
  | [] => h
  | v :: vs => (h.wipe vs).drop v none
theorem StG.wipe {G H : Hp} {σ : L2.St} {env : Env} {s : S} (h : StG F G σ H env s) (vs : List Nat) : StG F G (wipe σ vs) H (wipeE env vs) s := ⟨h.ext, h.gd, h.env_.wipe vs⟩
/-- nothing is wished of errors -/
def Fx.calm (F : Fx S) : Fx S := { F with wish := fun _ _ _ _ => False }
theorem RepSlot.calm {G H : Hp} {sl : Option Slot} {o : Option V} : RepSlot F G H sl o ↔ RepSlot F.calm G H sl o := by
  cases sl with
  | none => exact Iff.rfl
  | some sl => cases sl <;> exact Iff.rfl
theorem StG.calm {G H : Hp} {σ : L2.St} {env : Env} {s : S} (h : StG F G σ H env s) : StG F.calm G σ H env s :=
  ⟨h.ext, h.gd, h.env_.len, fun i sl e => let ⟨o, a, b⟩ := h.env_.at_ i sl e; ⟨o, a, RepSlot.calm.mp b⟩, h.env_.apart⟩
/-- a target of a comprehension: it changes the comprehension's own slots alone -/
def GW (F : Fx S) (own : List Nat) (g : TG) (γ : D → Env → M S Env) : Prop := ∀ σ0 G H env s d v (Q : L2.St → Hp → Prop), StG F G (wipe σ0 own) H env s → Rep F.toCc G d v →
  Post F G H (γ d env s) (fun env' s' => ∀ σ' G' H', Ext F.reg G H G' H' → wipe σ' own = wipe σ0 own → StG F G' σ' H' env' s' → Q σ' H') → g v (wipe σ0 own) H Q
theorem wipe_get (σ : L2.St) (own : List Nat) (j : Nat) : (wipe σ own)[j]? = if j ∈ own ∧ j < σ.length then some none else σ[j]? := by
  induction own with
  | nil => simp [wipe]
  | cons v vs ih =>
    unfold wipe
    by_cases e : v = j
    · subst e
      by_cases hl : v < σ.length
      · rw [List.getElem?_set_self (by rw [wipe_length]; exact hl), if_pos ⟨by simp, hl⟩]
      · rw [List.getElem?_eq_none (by rw [List.length_set, wipe_length]; omega), if_neg (fun h => hl h.2), List.getElem?_eq_none (by omega)]
    · rw [List.getElem?_set_ne e, ih]
      by_cases hj : j ∈ vs
      · simp [hj]
      · have : ¬ j ∈ v :: vs := by
          intro h
          rcases List.mem_cons.mp h with h | h
          · exact e h.symm
          · exact hj h
        simp [hj, this]
theorem wipe_set {σ : L2.St} {own : List Nat} {i : Nat} (h : i ∈ own) (o : Option V) : wipe (σ.set i o) own = wipe σ own := by
  apply List.ext_getElem?
  intro j
  rw [wipe_get, wipe_get, List.length_set]
  by_cases q : j ∈ own ∧ j < σ.length
  · rw [if_pos q, if_pos q]
  · rw [if_neg q, if_neg q]
    by_cases e : i = j
    · subst e
      have hl : ¬ i < σ.length := fun z => q ⟨h, z⟩
      rw [List.getElem?_eq_none (by rw [List.length_set]; omega), List.getElem?_eq_none (by omega)]
    · rw [List.getElem?_set_ne e]
theorem wipe_wipe {σ : L2.St} {own : List Nat} : wipe (wipe σ own) own = wipe σ own := by
  apply List.ext_getElem?
  intro j
  rw [wipe_get, wipe_get, wipe_length]
  by_cases q : j ∈ own ∧ j < σ.length
  · rw [if_pos q, if_pos q]
  · rw [if_neg q]
theorem gw_name {own : List Nat} {i : Nat} (h : i ∈ own) : GW F own (gName i) (gNm i) := fun σ0 G H env s d v Q st r p =>
  p _ G H (Ext.refl _ _ _) (by rw [wipe_set h, wipe_wipe]) (st.set i r)
def cmpL (γ : D → Env → M S Env) (t : Env → M S Bool) (e : Env → M S D) (env : Env) : List D → M S (List D)
  | [] => pure []
  | x :: xs => do
    let env1 ← γ x env
    if ← t env1 then do
      let y ← e env1
      let ys ← cmpL γ t e env xs
      pure (y :: ys)
    else cmpL γ t e env xs
def cmp (own : List Nat) (ι : Env → M S (List D)) (γ : D → Env → M S Env) (t : Env → M S Bool) (e : Env → M S D) : Env → M S D := fun env => do
  let xs ← ι env
  grd (xs.length ≤ sizeLine) (do return .lst (← calmM (cmpL γ t e (wipeE env own) xs)))
theorem calm_ok {α : Type} {m : M S α} {s : S} {G H : Hp} {P : α → S → Prop} (p : Post F G H (calmM m s) P) : ∃ a s', m s = .ok a s' ∧ P a s' := by
  unfold calmM at p
  cases q : m s with
  | ok a s' => rw [q] at p; exact ⟨a, s', rfl, p⟩
  | err x s' => rw [q] at p; exact p.elim
  | stk => rw [q] at p; exact p.elim
theorem bind_ok {α β : Type} {r : Res S α} {f : α → S → Res S β} {b : β} {s' : S} (h : r.bind f = .ok b s') : ∃ a s1, r = .ok a s1 ∧ f a s1 = .ok b s' := by
  cases r with
  | ok a s1 => exact ⟨a, s1, rfl, h⟩
  | err x s1 => exact nomatch h
  | stk => exact nomatch h
/-- the new list D, open, through a comprehension's turns -/
structure Acc (F : Fx S) (G1 H1 : Hp) (Dl : Addr) (G H : Hp) (acc : List D) (n : Nat) : Prop where
  ext : Ext F.reg G1 H1 G H
  h1 : H1 Dl = none
  nr : ¬ F.reg Dl
  at_ : ∃ vs, H Dl = some (.lst vs) ∧ RepL F.toCc G acc vs
  gn : G Dl = none
  len : acc.length ≤ n
/-- as tE, and the value is a new object -/
def tEN (F : Fx S) (τ : Env → M S D) : TE := fun σ H Q => ∃ G env s, StG F G σ H env s ∧
  Post F G H (τ env s) fun d s' => ∀ v G' H', (∃ a, v = .ref a ∧ H a = none) → Ext F.reg G H G' H' → StG F G' σ H' env s' → Rep F.toCc G' d v → Q v H'
theorem tLcN_of {own : List Nat} {ι : Env → M S (List D)} {γ : D → Env → M S Env} {t : Env → M S Bool} {e : Env → M S D} {g : TG} (hg : GW F.calm own g γ) (σ : L2.St) (H : Hp) (Q : VK) (h : tEN F (cmp own ι γ t e) σ H Q) :
    tLc (tI F ι) g (tT F.calm t) (tE F.calm e) own σ H Q := by
  obtain ⟨G, env, s, st, p⟩ := h
  refine ⟨G, env, s, st, (Post.bind p).mono fun ds s1 _ hk J G1 H1 e1 st1 it => ?_⟩
  obtain ⟨hz, hk⟩ := Post.grd hk
  obtain ⟨ys, sE, hys, hk⟩ := calm_ok (Post.bind hk)
  intro Dl nD
  obtain ⟨gd2, e2⟩ := st1.gd.open_ nD (.lst [])
  have nrD : ¬ F.reg Dl := fun z => by
    obtain ⟨u, e⟩ := F.there s1 H1 Dl st1.gd.w z
    rw [nD] at e; cases e
  refine ⟨fun i m H => m = ds.length - i ∧ ∃ G s acc, i ≤ ds.length ∧ Acc F G1 H1 Dl G H acc i ∧ Gd F.toCc G H s ∧ ∃ rest, cmpL γ t e (wipeE env own) (ds.drop i) s = .ok rest sE ∧ ys = acc ++ rest,
    ⟨_, rfl, G1, s1, [], Nat.zero_le _, ⟨e2, nD, nrD, ⟨[], upd_same, rfl⟩, st1.gd.gh.free nD, Nat.le_refl _⟩, gd2, ys, hys, rfl⟩, ?_⟩
  rintro i m H' ⟨rfl, G', s', acc, hi, A, gd', rest, hr, hy⟩
  have st' : StG F G' σ H' env s' := st1.ext' A.ext gd'
  obtain ⟨go, stop⟩ := it G' H' s' A.ext.g gd'
  obtain ⟨vs, hD, rv⟩ := A.at_
  by_cases hlt : i < ds.length
  · obtain ⟨gi, y⟩ := go i ds[i] (by simp [hlt])
    refine .inr ⟨gi, fun H2 => ∃ G s acc, i + 1 ≤ ds.length ∧ Acc F G1 H1 Dl G H2 acc (i + 1) ∧ Gd F.toCc G H2 s ∧ ∃ rest, cmpL γ t e (wipeE env own) (ds.drop (i + 1)) s = .ok rest sE ∧ ys = acc ++ rest, fun H2 h => ⟨_, by omega, rfl, h⟩, fun x H2 hy2 => ?_⟩
    obtain ⟨G2, ex2, g2, r2⟩ := y x H2 hy2
    have st2 : StG F.calm G2 (wipe σ own) H2 (wipeE env own) s' := ((st'.ext' ex2 g2).wipe own).calm
    rw [List.drop_eq_getElem_cons hlt] at hr
    obtain ⟨env3, s3, q3, hr⟩ := bind_ok hr
    refine hg σ G2 H2 (wipeE env own) s' ds[i] x _ st2 r2 ?_
    rw [q3]
    intro σ3 G3 H3 ex3 hw3 st3
    refine ⟨hw3, ?_⟩
    obtain ⟨b, s4, q4, hr⟩ := bind_ok hr
    refine ⟨G3, env3, s3, st3, ?_⟩
    rw [q4]
    intro G4 H4 ex4 st4
    have exA : Ext F.reg G' H' G4 H4 := (ex2.trans ex3).trans ex4
    cases b with
    | false =>
      rw [if_neg Bool.false_ne_true]
      exact ⟨G4, s4, acc, hlt, ⟨A.ext.trans exA, A.h1, A.nr, ⟨vs, exA.fr _ _ hD nrD (by intro _ h; cases h), rv.mono exA.g⟩, exA.un hD A.gn nrD, Nat.le_succ_of_le A.len⟩, st4.gd, rest, hr, hy⟩
    | true =>
      rw [if_pos rfl]
      obtain ⟨d5, s5, q5, hr⟩ := bind_ok hr
      obtain ⟨rs, s6, q6, hr⟩ := bind_ok hr
      refine ⟨G4, env3, s4, st4, ?_⟩
      rw [q5]
      intro v5 G5 H5 ex5 st5 r5
      have exB : Ext F.reg G' H' G5 H5 := exA.trans ex5
      have hD5 := exB.fr _ _ hD nrD (by intro _ h; cases h)
      have gn5 := exB.un hD A.gn nrD
      have hal := A.len
      refine ⟨vs, hD5, by rw [rv.length]; exact Nat.lt_of_lt_of_le (Nat.lt_of_le_of_lt hal hlt) hz, ?_⟩
      have gd6 := st5.gd.write hD5 gn5 nrD (.lst (vs ++ [v5]))
      have eC : Ext F.reg G1 H1 G5 H5 := A.ext.trans exB
      cases hr
      refine ⟨G5, s5, acc ++ [d5], hlt, ⟨⟨eC.g, fun b o q n nt => ?_, eC.nw, fun b q => ?_⟩, A.h1, A.nr, ⟨_, upd_same, (rv.mono exB.g).append (RepL.one r5)⟩, gn5, ?_⟩, gd6, rs, q6, by rw [hy, List.append_assoc]; rfl⟩
      · rw [upd_ne (ne_of_none q A.h1)]; exact eC.fr b o q n nt
      · by_cases hb : b = Dl
        · subst hb; rw [upd_same] at q; cases q
        · rw [upd_ne hb] at q; exact eC.tr b q
      · rw [List.length_append, List.length_singleton]; omega
  · rw [List.drop_eq_nil_of_le (by omega)] at hr
    cases hr
    rw [List.append_nil] at hy
    subst hy
    refine .inl ⟨stop i (by omega), ?_⟩
    have gdF := gd'.freeze hD nrD
    have eF : Ext F.reg G1 H1 (upd G' Dl (.lst vs)) H' := ⟨fun b o q => by rw [upd_ne (ne_of_none (A.ext.g b o q) A.gn)]; exact A.ext.g b o q, A.ext.fr, fun b o q => by
      by_cases hb : b = Dl
      · subst hb; exact .inr (.inl A.h1)
      · rw [upd_ne hb] at q; exact A.ext.nw b o q, A.ext.tr⟩
    refine hk (.ref Dl) _ H' ⟨Dl, rfl, e1.tr Dl nD⟩ (e1.trans eF) (st1.ext' eF gdF) ⟨Dl, vs, rfl, upd_same, ?_, rv.mono fun b o q => by rw [upd_ne (ne_of_none q A.gn)]; exact q⟩
    rw [rv.length]
    exact Nat.le_trans A.len (Nat.le_trans hi hz)
theorem tLc_of {own : List Nat} {ι : Env → M S (List D)} {γ : D → Env → M S Env} {t : Env → M S Bool} {e : Env → M S D} {g : TG} (hg : GW F.calm own g γ) (σ : L2.St) (H : Hp) (Q : VK) (h : tE F (cmp own ι γ t e) σ H Q) :
    tLc (tI F ι) g (tT F.calm t) (tE F.calm e) own σ H Q := by
  obtain ⟨G, env, s, st, p⟩ := h
  exact tLcN_of hg σ H Q ⟨G, env, s, st, p.mono fun _ _ _ q v G' H' _ => q v G' H'⟩
def tYs : Env → M S Bool := fun _ => pure true
theorem pts_mono {ifs : List Expr} {t t' : TT} (h : PTs X ifs t) (m : ∀ σ H Q, t' σ H Q → t σ H Q) : PTs X ifs t' := ⟨fun pins s σ H Q I q => h.run pins s σ H Q I (m σ H Q q)⟩
theorem dts_nil : PTs X [] (tT F tYs) := pts_mono pts_nil fun σ H Q ⟨G, env, s, st, p⟩ => p G H (Ext.refl _ _ _) st
theorem dts_one {c : Expr} {t : Env → M S Bool} (h : PT X c (tT F t)) : PTs X [c] (tT F t) := pts_one h
section
variable {elt tg iter : Expr} {ifs : List Expr} {scope : Scope} {own : List (Str × Nat)} {pos spos : Pos} {g : TG} {ι : Env → M S (List D)} {γ : D → Env → M S Env} {t : Env → M S Bool} {e : Env → M S D}
theorem de_lc (hc : X.calm = true) (hN : X.N.Nodup) (hi : PI X tg iter (tI F ι)) (ok : BlkOk X.N X.env.scope scope own) (gw : GW F.calm (own.map (·.2)) g γ)
    (hg : ∀ (s : Shared) (H : Hp) (C : Addr) (cl : List (Str × Addr)) (fp : List Addr), PG (X.blk s H scope (compEnvC scope cl C X.env) fp) tg g) (ht : ∀ (s : Shared) (H : Hp) (C : Addr) (cl : List (Str × Addr)) (fp : List Addr), PTs (X.blk s H scope (compEnvC scope cl C X.env) fp) ifs (tT F.calm t))
    (he : ∀ (s : Shared) (H : Hp) (C : Addr) (cl : List (Str × Addr)) (fp : List Addr), PE (X.blk s H scope (compEnvC scope cl C X.env) fp) elt (tE F.calm e)) (hs : ∀ x, foldedSetIterable iter X.env x = pure x := by intro _; rfl) :
    PE X (.ListComp elt [⟨tg, iter, ifs, 0⟩] scope pos) (tE F (cmp (own.map (·.2)) ι γ t e)) := pe_mono (pe_lc hc hN hi ok hg ht he hs) (tLc_of gw)
theorem tAsgLc_of {i : Nat} (gw : GW F.calm (own.map (·.2)) g γ) (D : Ends) (σ : L2.St) (H : Hp) (h : tS F (sAsg (cmp (own.map (·.2)) ι γ t e) (gNm i)) D σ H) : tAsg (tLc (tI F ι) g (tT F.calm t) (tE F.calm e) (own.map (·.2))) (gName i) D σ H := by
  obtain ⟨G, env, s, st, p⟩ := h
  refine tLc_of gw σ H _ (seqE st p fun d s1 v G1 H1 e1 st1 r1 p1 => ?_)
  exact p1 _ G1 H1 e1.g (st1.set i r1)
theorem ds_setLc {i : Nat} {y : Str} {py : Pos} (hc : X.calm = true) (hN : X.N.Nodup) (hy : X.N[i]? = some y) (hyl : X.env.scope.names.lookup y = some .local)
    (hsw : swapsWith (.ListComp elt [⟨tg, iter, ifs, 0⟩] scope pos) (some (.Name y py)) spos.line X.env = pure true) (hi : PI X tg iter (tI F ι)) (ok : BlkOk X.N X.env.scope scope own) (gw : GW F.calm (own.map (·.2)) g γ)
    (hg : ∀ (s : Shared) (H : Hp) (C : Addr) (cl : List (Str × Addr)) (fp : List Addr), PG (X.blk s H scope (compEnvC scope cl C X.env) fp) tg g) (ht : ∀ (s : Shared) (H : Hp) (C : Addr) (cl : List (Str × Addr)) (fp : List Addr), PTs (X.blk s H scope (compEnvC scope cl C X.env) fp) ifs (tT F.calm t))
    (he : ∀ (s : Shared) (H : Hp) (C : Addr) (cl : List (Str × Addr)) (fp : List Addr), PE (X.blk s H scope (compEnvC scope cl C X.env) fp) elt (tE F.calm e)) (hs : ∀ x, foldedSetIterable iter X.env x = pure x := by intro _; rfl) :
    PS X (.Assign [.Name y py] (.ListComp elt [⟨tg, iter, ifs, 0⟩] scope pos) spos) (tS F (sAsg (cmp (own.map (·.2)) ι γ t e) (gNm i))) := ps_mono (ps_setLc hc hN hy hyl hsw hi ok hg ht he hs) (tAsgLc_of gw)
end
end DL
set_option Elab.async false
set_option linter.all false
set_option maxRecDepth 100000
set_option maxHeartbeats 4000000
set_option autoImplicit false
namespace DL
open PySem PySem.Spec PyProof.Rows L2
variable {S : Type} {X : Cx} {F : Fx S}
/-! ### what a def promises -/
def PostC {α : Type} (C : Cc S) (reg : Addr → Prop) (G H : Hp) (E : XK) (r : Res S α) (Q : α → S → Prop) : Prop := match r with
  | .ok a s' => Q a s'
  | .err x s' => ∀ cls dd G' H', Ext reg G H G' H' → Gd C G' H' s' → RepX C G' x cls dd → E cls dd H'
  | .stk => False
def spD (C : Cc S) (n : Nat) (sem : List D → M S D) : Sp := fun vs H Q E => vs.length = n ∧ ∃ G ds s, Gd C G H s ∧ RepL C G ds vs ∧
  PostC C C.reg G H E (sem ds s) fun d s' => ∀ v G' H', Ext C.reg G H G' H' → Gd C G' H' s' → Rep C G' d v → Q v H'
theorem spD_len {C : Cc S} {n : Nat} {sem : List D → M S D} {ps : List Str} (h : ps.length = n) : ∀ vs H Q E, spD C n sem vs H Q E → vs.length = ps.length := fun _ _ _ _ q => q.1.trans h.symm
/-- sem' is sem where it claims anything -/
def Rfn (sem' sem : List D → M S D) : Prop := ∀ ds s, sem' ds s ≠ .stk → sem ds s = sem' ds s
theorem spD_imp {C : Cc S} {n : Nat} {sem sem' : List D → M S D} (h : Rfn sem' sem) (vs : List V) (H : Hp) (Q : VK) (E : XK) (q : spD C n sem' vs H Q E) : spD C n sem vs H Q E := by
  obtain ⟨l, G, ds, s, g, r, p⟩ := q
  refine ⟨l, G, ds, s, g, r, ?_⟩
  have e : sem ds s = sem' ds s := h ds s fun z => by rw [z] at p; exact p
  rw [e]; exact p
/-- what is wished of a callee's error -/
def eOf (F : Fx S) : XK := fun cls dd H' => ∀ σ', F.wish cls dd σ' H'
theorem passes_F (tk : Takes X F.wish) : Passes (L2.CX X.prog X.w) X (eOf F) := passes_call tk fun cls d σ H h => h σ
/-- the callee's promise from what the caller wants -/
theorem spD_of {n : Nat} {sem : List D → M S D} {ds : List D} {vs : List V} {G H : Hp} {σ : L2.St} {env : Env} {s : S} {Q : VK} (hn : ds.length = n) (st : StG F G σ H env s) (r : RepL F.toCc G ds vs) (p : Post F G H (sem ds s) (K1 F G H σ env Q)) : spD F.toCc n sem vs H Q (eOf F) := by
  refine ⟨by rw [r.length]; exact hn, G, ds, s, st.gd, r, ?_⟩
  cases q : sem ds s with
  | ok d s' => rw [q] at p; exact fun v G' H' e g rv => p v G' H' e (st.ext' e g) rv
  | err x s' => rw [q] at p; exact fun cls dd G' H' e g rx σ' => p cls dd σ' G' H' e.g (st.ext.trans (e.wide F.sub)) g rx
  | stk => rw [q] at p; exact p
/-! ### calls of defs -/
def cal (sem : List D → M S D) (dv : List D) (n : Nat) (τ : Env → M S (List D)) : Env → M S D := fun env => do
  let ds ← τ env
  grd (ds.length + dv.length = n) (sem (ds ++ dv))
/-- defaults, as values and as data -/
def DfR (C : Cc S) : List D → List V → Prop := fun dv dvs => ∀ G, RepL C G dv dvs
theorem DfR.nil {C : Cc S} : DfR C [] [] := fun _ => rfl
section
variable {k n : Nat} {f C : Addr} {fd : FuncData} {ps : List Str} {sem : List D → M S D} {dv : List D} {dvs : List V} {ds : List Value} {x m : Str} {p pos apos : Pos} {e o : Expr} {es : List Expr} {τ : Env → M S D} {α : Env → M S (List D)}
theorem tCall_of (dr : DfR F.toCc dv dvs) (σ : L2.St) (H : Hp) (Q : VK) (h : tE F (cal sem dv n α) σ H Q) : tCall (spD F.toCc n sem) dvs (eOf F) (tA F α) σ H Q := by
  obtain ⟨G, env, s, st, p⟩ := h
  refine seqA st p fun ds s1 vs G1 H1 e1 st1 r1 p1 => ?_
  obtain ⟨hl, p1⟩ := Post.grd p1
  exact spD_of (by rw [List.length_append]; exact hl) st1 (r1.append (dr G1)) (p1.K1 e1)
theorem de_call (G : FnOk X.prog X.w X.K X.mg X.base (L2.CX X.prog X.w) k f fd ps (spD F.toCc n sem)) (tk : Takes X F.wish) (hr : Room k X.A) (hg : Gl X x) (hm : X.mg x = some (.ref f)) (hk : PySem.W.keepIn X.K (.ref f) = true) (hb : Binds X.K fd ps ds) (hd : Vals dvs ds) (dr : DfR F.toCc dv dvs)
    (ha : PA X (e :: es) (tA F α)) (hdb : (x == ("__debug__" : Str)) = false := by decide) (he : starEach (e :: es) X.env = (false, eval e X.env) :: starEach es X.env := by rfl) (hpl : (backTo pos (starEach es X.env)).any (·.1) = false := by rfl) :
    PE X (.Call (.Name x p) (e :: es) [] pos) (tE F (cal sem dv n α)) := pe_mono (pe_call G hr hg hm hk hb hd (passes_F tk) ha hdb he hpl) (tCall_of dr)
/-! ### methods -/
theorem RepF.lookup {C : Cc S} {G : Hp} {m : Str} : ∀ {fs : List (Str × D)} {vs : List (Str × V)}, RepF C G fs vs → (fs.lookup m = none → vs.lookup m = none) ∧ ∀ d, fs.lookup m = some d → ∃ v, vs.lookup m = some v ∧ Rep C G d v
  | [], _, r => by
    have e : _ = [] := r
    subst e
    exact ⟨fun _ => rfl, fun d h => nomatch h⟩
  | (k, d) :: fs, _, ⟨v, r, e, a, b⟩ => by
    subst e
    obtain ⟨h1, h2⟩ := b.lookup (m := m)
    simp only [List.lookup]
    cases hk : m == k with
    | true => exact ⟨fun z => (nomatch z), fun d' z => by cases z; exact ⟨v, rfl, a⟩⟩
    | false => exact ⟨h1, h2⟩
/-! ### fields -/
def fldC (c f : Str) (τ : Env → M S D) : Env → M S D := fun env => do
  onIns (fun c' fs => grd (c' = c) (match fs.lookup f with
    | some d => pure d
    | none => stk)) (← τ env)
/-- o.f, o of the class c -/
theorem de_fldC {c f : Str} {τ : Env → M S D} (hK : X.K = F.K) (hC : F.cad c = C) (hcl : Cls X.K C) (hna : NoAttr X.K C f) (he : PE X e (tE F τ)) (hb : attributeBase e f X.env (eval e X.env) = eval e X.env := by rfl) : PE X (.Attribute e f pos) (tE F (fldC c f τ)) :=
  pe_mono (pe_fld he hb) fun σ H Q ⟨G, env, s, st, p⟩ => by
    refine seqE st p fun d s1 v G1 H1 e1 st1 r1 p1 => ?_
    obtain ⟨c', fs, rfl, p3⟩ := Post.onIns p1
    obtain ⟨hc, p4⟩ := Post.grd p3
    obtain ⟨a, dx, vs, rfl, ha, hdx, rf⟩ := r1
    cases q : fs.lookup f with
    | none => rw [q] at p4; exact p4.elim
    | some d =>
      rw [q] at p4
      obtain ⟨w, hw, rw_⟩ := (rf.lookup (m := f)).2 d q
      exact ⟨a, C, dx, vs, w, rfl, by rw [← hC, ← hc]; exact st1.gd.gh _ _ ha, hcl, hna, hw, p4 w G1 H1 e1 st1 rw_⟩
/-- o.f, a property of the class c -/
def prp (c : Str) (sem : List D → M S D) (τ : Env → M S D) : Env → M S D := fun env => do
  let o ← τ env
  onIns (fun c' _ => grd (c' = c) (calmM (sem [o]))) o
theorem de_prop {c f : Str} {q g : Addr} {τ : Env → M S D} (hC : F.cad c = C) (he : PE X e (tE F τ)) (cl : Cls X.K C) (hp : PropOf X.K C f q g) (G : FnOk X.prog X.w X.K X.mg X.base (L2.CX X.prog X.w) k g fd ps (spD F.toCc 1 sem)) (hr : Room (k + 1) X.A) (hb : Binds X.K fd ps [])
    (hab : attributeBase e f X.env (eval e X.env) = eval e X.env := by rfl) : PE X (.Attribute e f pos) (tE F (prp c sem τ)) :=
  pe_mono (pe_prop he cl hp G hr hb .nil (passL (X := X.nox)) hab) fun σ H Q ⟨G, env, s, st, p⟩ => by
    refine seqE st p fun d s1 v G1 H1 e1 st1 r1 p1 => ?_
    obtain ⟨c', fs, rfl, p3⟩ := Post.onIns p1
    obtain ⟨hc, p4⟩ := Post.grd p3
    obtain ⟨d', s2, hs, p5⟩ := calm_ok p4
    obtain ⟨a, dx, vs, rfl, ha, hdx, rf⟩ := id r1
    refine ⟨a, dx, vs, rfl, by rw [← hC, ← hc]; exact st1.gd.gh _ _ ha, rfl, G1, _, s1, st1.gd, RepL.one r1, ?_⟩
    rw [hs]
    exact fun v G' H' e' g' rv => p5 v G' H' (e1.trans e') (st1.ext' e' g') rv
end
/-! ### a def by its body -/
def startE (N : List Str) (ds : List D) : Env := ds.map (fun d => some (.val d)) ++ List.replicate (N.length - ds.length) none
def runB (rd : Env → M S Flw) (N : List Str) (ds : List D) : M S D := fun s => match rd (startE N ds) s with
  | .ok (.rt d) s' => .ok d s'
  | .ok (.nx _) s' => .ok .non s'
  | .ok _ _ => .stk
  | .err x s' => .err x s'
  | .stk => .stk
theorem repEnv_start {F : Fx S} {G H : Hp} {N : List Str} : ∀ {ds : List D} {vs : List V}, RepL F.toCc G ds vs → RepEnv F G H (L2.start N vs) (startE N ds) := fun {ds vs} r => by
  have hl := r.length
  have no : ∀ i, ¬ isOwn (startE N ds)[i]? := fun i h => by
    unfold startE at h
    by_cases hi : i < ds.length
    · rw [List.getElem?_append_left (by simpa using hi), List.getElem?_map, List.getElem?_eq_getElem hi] at h
      exact h
    · rw [List.getElem?_append_right (by simpa using hi), List.getElem?_replicate] at h
      split at h <;> exact h
  refine ⟨?_, fun i sl e => ?_, fun i j _ hi _ => (no i hi).elim⟩
  · unfold L2.start startE
    simp [hl]
  · unfold startE at e
    unfold L2.start
    by_cases hi : i < ds.length
    · rw [List.getElem?_append_left (by simpa using hi), List.getElem?_map, List.getElem?_eq_getElem hi] at e
      cases e
      obtain ⟨v, hv, rv⟩ := r.get (i := i) (d := ds[i]) (by simp [hi])
      refine ⟨some v, ?_, v, rfl, rv⟩
      rw [List.getElem?_append_left (by simpa [hl] using hi), List.getElem?_map, hv]; rfl
    · rw [List.getElem?_append_right (by simpa using hi), List.getElem?_replicate] at e
      split at e
      · rename_i hq
        cases e
        refine ⟨none, ?_, trivial⟩
        rw [List.length_map] at hq
        rw [List.getElem?_append_right (by simpa [hl] using hi), List.getElem?_replicate, if_pos (by simpa [hl] using hq)]
      · cases e
/-- the ground of a def's body -/
def fxOf (C : Cc S) (G H : Hp) (E : XK) : Fx S := { C with G0 := G, H0 := H, reg0 := C.reg, sub := fun _ h => h, wish := fun cls d _ H' => E cls d H' }
section
variable {P : Program} {w : World} {K : PySem.W.Frag} {mg : Str → Option Value} {base : Heap} {x qual : Str} {stm : Stmt} {f : Addr} {fd : FuncData} {N ps : List Str} {k : Nat}
theorem fn_body {C : Cc S} {rd : Env → M S Flw} {sem : List D → M S D} (Fn : Fun K x qual stm f fd) (Sc : FnScope N ps (defScope stm)) (hsem : Rfn sem (runB rd N))
    (hb : ∀ (cdv : Value) (A : Around) (outer : List PySem.Env) (s : Shared) (H G : Hp) (E : XK), Room k (A.deeper (envOfC qual (defScope stm) s.heap.objs.size f cdv)) →
      PSs (cxOf (L2.CX P w) P w K mg base N qual (defScope stm) f cdv A outer s H E) (defBody stm) (tS (fxOf C G H E) rd)) : FnOk P w K mg base (L2.CX P w) (k + 1) f fd ps (spD C ps.length sem) := by
  refine Fn.okX Sc (spD_len rfl) fun cdv A outer s H vs Q E hr h => ?_
  obtain ⟨hl, G, ds, st, g, r, p⟩ := spD_imp hsem vs H Q E h
  refine ⟨_, hb cdv A outer s H G E hr, G, startE N ds, st, ⟨Ext.refl _ _ _, g, repEnv_start r⟩, ?_⟩
  unfold runB at p
  cases q : rd (startE N ds) st with
  | stk => rw [q] at p; exact p
  | err e s' => rw [q] at p; exact fun cls dd σ' G' H' _ ex gd rx => p cls dd G' H' ex gd rx
  | ok fl s' =>
    rw [q] at p
    cases fl with
    | nx e => exact fun σ' G' H' _ st' => p .non G' H' st'.ext st'.gd rfl
    | rt d => exact fun v G' H' _ ex gd rv => p v G' H' ex gd rv
    | bk e => exact p.elim
    | ct e => exact p.elim
end
end DL
set_option Elab.async false
set_option linter.all false
set_option maxRecDepth 100000
set_option maxHeartbeats 4000000
set_option autoImplicit false
namespace DL
open PySem PySem.Spec PyProof.Rows L2
variable {S : Type} {X : Cx} {F : Fx S}
/-! ### what an __init__ promises -/
def spI (C : Cc S) (c : Str) (n : Nat) (sem : List D → M S (List (Str × D))) : Sp := fun vs H Q E => vs.length = n + 1 ∧ ∃ x dx vs' G ds s, vs = .ref x :: vs' ∧ H x = some (.ins (C.cad c) dx []) ∧ H dx = some (.own x) ∧ dx ≠ x ∧ G x = none ∧ G dx = none ∧ ¬ C.reg x ∧ ¬ C.reg dx ∧ Gd C G H s ∧ RepL C G ds vs' ∧
  PostC C (fun a => C.reg a ∨ a = x) G H E (sem ds s) fun fs s' => ∀ G' H' fv, Ext (fun a => C.reg a ∨ a = x) G H G' H' → Gd C G' H' s' → H' x = some (.ins (C.cad c) dx fv) → H' dx = some (.own x) → G' x = none → G' dx = none → RepF C G' fs fv → Q .non H'
def RfnI (sem' sem : List D → M S (List (Str × D))) : Prop := ∀ ds s, sem' ds s ≠ .stk → sem ds s = sem' ds s
theorem spI_imp {C : Cc S} {c : Str} {n : Nat} {sem sem' : List D → M S (List (Str × D))} (h : RfnI sem' sem) (vs : List V) (H : Hp) (Q : VK) (E : XK) (q : spI C c n sem' vs H Q E) : spI C c n sem vs H Q E := by
  obtain ⟨l, x, dx, vs', G, ds, s, h1, h2, h3, h4, h5, h6, h7, h8, h9, h10, p⟩ := q
  refine ⟨l, x, dx, vs', G, ds, s, h1, h2, h3, h4, h5, h6, h7, h8, h9, h10, ?_⟩
  have e : sem ds s = sem' ds s := h ds s fun z => by rw [z] at p; exact p
  rw [e]; exact p
/-! ### c(..) -/
def mk (c : Str) (sem : List D → M S (List (Str × D))) (dv : List D) (n : Nat) (τ : Env → M S (List D)) : Env → M S D := fun env => do
  let ds ← τ env
  grd (ds.length + dv.length = n) (do return .ins c (← sem (ds ++ dv)))
section
variable {k n : Nat} {f C : Addr} {fd : FuncData} {ps : List Str} {c : Str} {sem : List D → M S (List (Str × D))} {dv : List D} {dvs : List V} {ds : List Value} {x m : Str} {p pos apos : Pos} {e o : Expr} {es : List Expr} {α : Env → M S (List D)}
theorem spI_of {ds : List D} {vs : List V} {G H : Hp} {σ : L2.St} {env : Env} {s : S} {Q : VK} (hn : ds.length = n) (st : StG F G σ H env s) (r : RepL F.toCc G ds vs) (p : Post F G H (((sem ds s).bind fun fs s' => Res.ok (D.ins c fs) s')) (K1 F G H σ env Q))
    {x dx : Addr} (nx : H x = none) (nd : H dx = none) (ne : dx ≠ x) : spI F.toCc c n sem (.ref x :: vs) (upd (upd H dx (.own x)) x (.ins (F.cad c) dx [])) (fun v H2 => v = .non ∧ Q (.ref x) H2) (eOf F) := by
  have nreg : ∀ b, H b = none → ¬ F.reg b := fun b n z => by
    obtain ⟨u, e⟩ := F.there s H b st.gd.w z
    rw [n] at e; cases e
  obtain ⟨g1, e1⟩ := st.gd.open_ nd (.own x)
  obtain ⟨g2, e2⟩ := g1.open_ (show upd H dx (.own x) x = none by rw [upd_ne (Ne.symm ne)]; exact nx) (.ins (F.cad c) dx [])
  have e12 := e1.trans e2
  have gx : G x = none := st.gd.gh.free nx
  have gdx : G dx = none := st.gd.gh.free nd
  refine ⟨by rw [List.length_cons, r.length, hn], x, dx, vs, G, ds, s, rfl, upd_same, by rw [upd_ne ne, upd_same], ne, gx, gdx, nreg x nx, nreg dx nd, g2, r, ?_⟩
  cases q : sem ds s with
  | stk => rw [q] at p; exact p
  | err y s' =>
    rw [q] at p
    intro cls dd G' H' e g rx σ'
    refine p cls dd σ' G' H' e.g ?_ g rx
    refine ⟨st.ext.g.trans e.g, fun b o hb nb nt => ?_, fun b o hb => ?_, fun b hb => st.ext.tr b (e12.tr b (e.tr b hb))⟩
    · have hb1 := st.ext.fr b o hb nb nt
      have hb2 := e12.fr b o hb1 (fun z => nb (F.sub b z)) nt
      exact e.fr b o hb2 (fun z => z.elim (fun z => nb (F.sub b z)) fun z => by rw [z, nx] at hb1; cases hb1) nt
    · rcases e.nw b o hb with z | z | z
      · exact st.ext.nw b o z
      · exact .inr (.inl (st.ext.tr b (e12.tr b z)))
      · refine .inr (z.back (fun a u ha hn ht => e12.fr a u (st.ext.fr a u ha hn ht) (fun q => hn (F.sub a q)) ht) fun q => q.elim (fun q => .inl (F.sub b q)) fun q => .inr (st.ext.tr b (by rw [q]; exact nx)))
  | ok fs s' =>
    rw [q] at p
    intro G' H' fv e g hx hdx gx' gdx' rf
    refine ⟨rfl, ?_⟩
    have g3 := (g.freeze hdx (nreg dx nd))
    have g4 := g3.freeze hx (nreg x nx)
    have ss : Same G' (upd (upd G' dx (.own x)) x (.ins (F.cad c) dx fv)) := fun b o hb => by
      rw [upd_ne (ne_of_none hb gx'), upd_ne (ne_of_none hb gdx')]; exact hb
    have eX : Ext F.reg G H (upd (upd G' dx (.own x)) x (.ins (F.cad c) dx fv)) H' := by
      refine ⟨e.g.trans ss, fun b o hb nb nt => ?_, fun b o hb => ?_, fun b hb => e12.tr b (e.tr b hb)⟩
      · exact e.fr b o (e12.fr b o hb nb nt) (fun z => z.elim nb fun z => by rw [z, nx] at hb; cases hb) nt
      · by_cases h1 : b = x
        · subst h1; exact .inr (.inl nx)
        · rw [upd_ne h1] at hb
          by_cases h2 : b = dx
          · subst h2; exact .inr (.inl nd)
          · rw [upd_ne h2] at hb
            rcases e.nw b o hb with z | z | z
            · exact .inl z
            · exact .inr (.inl (e12.tr b z))
            · exact .inr (z.back e12.fr fun q => q.elim .inl fun q => .inr (by rw [q]; exact nx))
    exact p _ _ H' eX (st.ext' eX g4) ⟨x, dx, fv, rfl, upd_same, by rw [upd_ne ne, upd_same], rf.mono ss⟩
theorem tMake_of (dr : DfR F.toCc dv dvs) (hC : F.cad c = C) (σ : L2.St) (H : Hp) (Q : VK) (h : tE F (mk c sem dv n α) σ H Q) : tMake C (spI F.toCc c n sem) dvs (eOf F) (tA F α) σ H Q := by
  obtain ⟨G, env, s, st, p⟩ := h
  refine seqA st p fun ds s1 vs G1 H1 e1 st1 r1 p1 => ?_
  obtain ⟨hl, p1⟩ := Post.grd p1
  intro x dx nx nd ne
  subst hC
  exact spI_of (by rw [List.length_append]; exact hl) st1 (r1.append (dr G1)) (p1.K1 e1) nx nd ne
theorem de_make (hC : F.cad c = C) (Mk_ : Mk X.K C f) (G : FnOk X.prog X.w X.K X.mg X.base (L2.CX X.prog X.w) k f fd ps (spI F.toCc c n sem)) (tk : Takes X F.wish) (hr : Room (k + 1) X.A) (hg : Gl X x) (hm : X.mg x = some (.ref C)) (hb : Binds X.K fd ps ds) (hd : Vals dvs ds) (dr : DfR F.toCc dv dvs)
    (ha : PA X (e :: es) (tA F α)) (hdb : (x == ("__debug__" : Str)) = false := by decide) (he : starEach (e :: es) X.env = (false, eval e X.env) :: starEach es X.env := by rfl) (hpl : (backTo pos (starEach es X.env)).any (·.1) = false := by rfl) :
    PE X (.Call (.Name x p) (e :: es) [] pos) (tE F (mk c sem dv n α)) := pe_mono (pe_make Mk_ G hr hg hm hb hd (passes_F tk) ha hdb he hpl) (tMake_of dr hC)
end
/-! ### an __init__ by its body -/
def startI (c : Str) (N : List Str) (ds : List D) : Env := some (.obj c []) :: (ds.map (fun d => some (.val d)) ++ List.replicate (N.length - (ds.length + 1)) none)
def runI (rd : Env → M S Flw) (c : Str) (N : List Str) (ds : List D) : M S (List (Str × D)) := fun s => match rd (startI c N ds) s with
  | .ok (.nx (some (.obj c' fs) :: _)) s' => if c' = c then .ok fs s' else .stk
  | .ok _ _ => .stk
  | .err x s' => .err x s'
  | .stk => .stk
theorem isOwn_startI {c : Str} {N : List Str} {ds : List D} {i : Nat} (h : isOwn (startI c N ds)[i]?) : i = 0 := by
  cases i with
  | zero => rfl
  | succ i =>
    exfalso
    unfold startI at h
    rw [List.getElem?_cons_succ] at h
    by_cases hi : i < ds.length
    · rw [List.getElem?_append_left (by simpa using hi), List.getElem?_map, List.getElem?_eq_getElem hi] at h
      exact h
    · rw [List.getElem?_append_right (by simpa using hi), List.getElem?_replicate] at h
      split at h <;> exact h
def fxI (C : Cc S) (G H : Hp) (x : Addr) (E : XK) : Fx S := { C with G0 := G, H0 := H, reg0 := fun a => C.reg a ∨ a = x, sub := fun _ h => .inl h, wish := fun cls d _ H' => E cls d H' }
section
variable {P : Program} {w : World} {K : PySem.W.Frag} {mg : Str → Option Value} {base : Heap} {x qual : Str} {stm : Stmt} {f : Addr} {fd : FuncData} {N ps : List Str} {k n : Nat} {c : Str}
theorem repEnv_startI {C : Cc S} {G H : Hp} {x dx : Addr} {E : XK} {ds : List D} {vs : List V} (h1 : H x = some (.ins (C.cad c) dx [])) (h2 : H dx = some (.own x)) (g1 : G x = none) (g2 : G dx = none) (n1 : ¬ C.reg x) (n2 : ¬ C.reg dx) (r : RepL C G ds vs) :
    RepEnv (fxI C G H x E) G H (L2.start N (.ref x :: vs)) (startI c N ds) := by
  have hl := r.length
  refine ⟨?_, fun i sl e => ?_, fun i j ne hi hj => absurd ((isOwn_startI hi).trans (isOwn_startI hj).symm) ne⟩
  · unfold L2.start startI
    simp [hl]
  · cases i with
    | zero =>
      cases e
      exact ⟨some (.ref x), rfl, x, dx, [], rfl, h1, h2, g1, g2, n1, n2, .inr rfl, ⟨_, _, h1⟩, rfl⟩
    | succ i =>
      unfold startI at e
      rw [List.getElem?_cons_succ] at e
      have es : ∀ i : Nat, (L2.start N (V.ref x :: vs))[i + 1]? = (vs.map some ++ List.replicate (N.length - (vs.length + 1)) none)[i]? := fun i => by
        unfold L2.start
        rw [List.map_cons, List.cons_append, List.getElem?_cons_succ, List.length_cons]
      rw [es]
      by_cases hi : i < ds.length
      · rw [List.getElem?_append_left (by simpa using hi), List.getElem?_map, List.getElem?_eq_getElem hi] at e
        cases e
        obtain ⟨v, hv, rv⟩ := r.get (i := i) (d := ds[i]) (by simp [hi])
        refine ⟨some v, ?_, v, rfl, rv⟩
        rw [List.getElem?_append_left (by simpa [hl] using hi), List.getElem?_map, hv]; rfl
      · rw [List.getElem?_append_right (by simpa using hi), List.getElem?_replicate] at e
        split at e
        · rename_i hq
          cases e
          refine ⟨none, ?_, trivial⟩
          rw [List.length_map] at hq
          rw [List.getElem?_append_right (by simpa [hl] using hi), List.getElem?_replicate, if_pos (by simpa [hl] using hq)]
        · cases e
theorem fn_init {C : Cc S} {rd : Env → M S Flw} {sem : List D → M S (List (Str × D))} (Fn : Fun K x qual stm f fd) (Sc : FnScope N ps (defScope stm)) (hn : ps.length = n + 1) (hsem : RfnI sem (runI rd c N))
    (hb : ∀ (cdv : Value) (A : Around) (outer : List PySem.Env) (s : Shared) (H G : Hp) (xx : Addr) (E : XK), Room k (A.deeper (envOfC qual (defScope stm) s.heap.objs.size f cdv)) →
      PSs (cxOf (L2.CX P w) P w K mg base N qual (defScope stm) f cdv A outer s H E) (defBody stm) (tS (fxI C G H xx E) rd)) : FnOk P w K mg base (L2.CX P w) (k + 1) f fd ps (spI C c n sem) := by
  refine Fn.okX Sc (fun _ _ _ _ q => q.1.trans hn.symm) fun cdv A outer s H vs Q E hr h => ?_
  obtain ⟨hl, xx, dx, vs', G, ds, st, rfl, h1, h2, ne, g1, g2, n1, n2, g, r, p⟩ := spI_imp hsem vs H Q E h
  refine ⟨_, hb cdv A outer s H G xx E hr, G, startI c N ds, st, ⟨Ext.refl _ _ _, g, repEnv_startI h1 h2 g1 g2 n1 n2 r⟩, ?_⟩
  unfold runI at p
  cases q : rd (startI c N ds) st with
  | stk => rw [q] at p; exact p
  | err e s' => rw [q] at p; exact fun cls dd σ' G' H' _ ex gd rx => p cls dd G' H' ex gd rx
  | ok fl s' =>
    rw [q] at p
    match fl, p with
    | .nx (some (.obj c' fs) :: env), p =>
      intro σ' G' H' _ st'
      by_cases hc : c' = c
      · subst hc
        dsimp only at p
        rw [if_pos rfl] at p
        obtain ⟨o, ho, a, dx', fv, ea, ha, hda, gna, gnd, nra, nrd, r0, ⟨C', fv0, h0⟩, rf⟩ := st'.env_.at_ 0 _ rfl
        have eax : a = xx := r0.elim (fun z => absurd z nra) id
        subst eax
        have hdx : H' dx = some (.own a) := st'.ext.fr dx _ h2 (fun z => z.elim n2 ne) (by intro _ h; cases h)
        have gdx : G' dx = none := st'.ext.un h2 g2 (fun z => z.elim n2 ne)
        -- its dict is the one it had
        exact p G' H' fv st'.ext st'.gd (by
          have : dx' = dx := by
            have z : H a = some (.ins C' dx' fv0) := h0
            rw [h1] at z; cases z; rfl
          rw [← this]; exact ha) hdx gna gdx rf
      · dsimp only at p
        rw [if_neg hc] at p
        exact p.elim
    | .nx [], p => exact p.elim
    | .nx (none :: _), p => exact p.elim
    | .nx (some (.val _) :: _), p => exact p.elim
    | .nx (some (.own _) :: _), p => exact p.elim
    | .rt d, p => exact p.elim
    | .bk e, p => exact p.elim
    | .ct e, p => exact p.elim
end
/-! ### self.f = e -/
def putD (f : Str) (d : D) : List (Str × D) → List (Str × D)
  | [] => [(f, d)]
  | (g, x) :: r => if g = f then (g, d) :: r else (g, x) :: putD f d r
theorem RepF.put {C : Cc S} {G : Hp} {f : Str} {d : D} {v : V} (r : Rep C G d v) : ∀ {fs : List (Str × D)} {vs : List (Str × V)}, RepF C G fs vs → RepF C G (putD f d fs) (putF f v vs)
  | [], _, h => by
    have e : _ = [] := h
    subst e
    exact ⟨v, [], rfl, r, rfl⟩
  | (g, x) :: fs, _, ⟨w, q, e, a, b⟩ => by
    subst e
    unfold putD putF
    by_cases h : g = f
    · rw [if_pos h, if_pos h]; exact ⟨v, q, rfl, r, b⟩
    · rw [if_neg h, if_neg h]; exact ⟨w, _, rfl, a, b.put r⟩
theorem RepF.length {C : Cc S} {G : Hp} : ∀ {ds : List (Str × D)} {vs : List (Str × V)}, RepF C G ds vs → vs.length = ds.length
  | [], _, r => by rw [r]; rfl
  | (_, _) :: _, _, ⟨v, r, e, _, b⟩ => by rw [e, List.length_cons, List.length_cons, b.length]
def sFldO (i : Nat) (c f : Str) (τ : Env → M S D) : Env → M S Flw := fun env => do
  let d ← τ env
  match env[i]? with
  | some (some (.obj c' fs)) => grd (c' = c ∧ fs.length < 1000) (pure (.nx (env.set i (some (.obj c (putD f d fs))))))
  | _ => stk
theorem isOwn_same {env : Env} {i j : Nat} {a b : Slot} (hi : env[i]? = some (some a)) (ha : isOwn (some (some a))) (h : isOwn (env.set i (some b))[j]?) : isOwn env[j]? := by
  by_cases e : i = j
  · subst e; rw [hi]; exact ha
  · rw [List.getElem?_set_ne e] at h; exact h
/-- a slot's object is written -/
theorem StG.setObj {G H : Hp} {σ : L2.St} {env : Env} {s : S} {i : Nat} {c : Str} {fs fs' : List (Str × D)} (st : StG F G σ H env s) (hi : env[i]? = some (some (.obj c fs))) :
    ∃ a dx vs, σ[i]? = some (some (.ref a)) ∧ H a = some (.ins (F.cad c) dx vs) ∧ RepF F.toCc G fs vs ∧ ∀ vs', RepF F.toCc G fs' vs' → StG F G σ (upd H a (.ins (F.cad c) dx vs')) (env.set i (some (.obj c fs'))) s := by
  obtain ⟨o, ho, a, dx, vs, rfl, ha, hd, ga, gd, na, nd, r0, h0, rf⟩ := st.env_.at_ i _ hi
  refine ⟨a, dx, vs, ho, ha, rf, fun vs' rf' => ?_⟩
  have ne : dx ≠ a := ne_of hd ha (by intro z; cases z)
  have hl : i < env.length := (List.getElem?_eq_some_iff.mp hi).1
  refine ⟨⟨st.ext.g, fun b o hb nb => ?_, st.ext.nw, fun b hb => ?_⟩, st.gd.write ha ga na _, ?_, fun j sl e => ?_, fun p q n hp hq => ?_⟩
  · rw [upd_ne (fun z : b = a => nb (z ▸ r0))]; exact st.ext.fr b o hb nb
  · by_cases hba : b = a
    · subst hba; rw [upd_same] at hb; cases hb
    · rw [upd_ne hba] at hb; exact st.ext.tr b hb
  · rw [List.length_set]; exact st.env_.len
  · by_cases q : i = j
    · subst q
      rw [List.getElem?_set_self hl] at e
      cases e
      exact ⟨_, ho, a, dx, vs', rfl, upd_same, by rw [upd_ne ne]; exact hd, ga, gd, na, nd, r0, h0, rf'⟩
    · rw [List.getElem?_set_ne q] at e
      obtain ⟨o2, ho2, rs⟩ := st.env_.at_ j sl e
      refine ⟨o2, ho2, ?_⟩
      match sl, rs with
      | none, _ => trivial
      | some (.val d), rs => exact rs
      | some (.own ds), ⟨b, us, eb, hb, gb, nb, h0b, z, rb⟩ =>
        exact ⟨b, us, eb, by rw [upd_ne (ne_of hb ha (by intro z; cases z))]; exact hb, gb, nb, h0b, z, rb⟩
      | some (.obj c2 f2), ⟨b, dy, us, eb, hb, hdb, gb, gdb, nb, ndb, r0b, h0b, rb⟩ =>
        have nba : b ≠ a := fun z => by
          refine st.env_.apart i j q (by rw [hi]; trivial) (by rw [e]; trivial) ?_
          rw [ho, ho2, eb, z]
        exact ⟨b, dy, us, eb, by rw [upd_ne nba]; exact hb, by rw [upd_ne (ne_of hdb ha (by intro z; cases z))]; exact hdb, gb, gdb, nb, ndb, r0b, h0b, rb⟩
  · exact st.env_.apart p q n (isOwn_same hi trivial hp) (isOwn_same hi trivial hq)
theorem ds_fld {i : Nat} {c f : Str} {τ : Env → M S D} {o value : Expr} {pos pos' : Pos} (hK : X.K = F.K) (hcl : Cls X.K (F.cad c)) (hna : NoAttr X.K (F.cad c) f) (ho : PE X o (tVar i)) (hv : PE X value (tE F τ)) (hs : swapsWith value (some (.Attribute o f pos')) pos.line X.env = pure false := by rfl) :
    PS X (.Assign [.Attribute o f pos'] value pos) (tS F (sFldO i c f τ)) := ps_mono (ps_fld ho hv hs) fun D σ H ⟨G, env, s, st, p⟩ => by
  refine seqE st p fun d s1 v G1 H1 e1 st1 r1 p1 => ?_
  cases hi : env[i]? with
  | none => simp only [hi] at p1; exact p1.elim
  | some sl =>
    cases sl with
    | none => simp only [hi] at p1; exact p1.elim
    | some sl =>
      cases sl with
      | val d => simp only [hi] at p1; exact p1.elim
      | own d => simp only [hi] at p1; exact p1.elim
      | obj c' fs =>
        simp only [hi] at p1
        obtain ⟨⟨rfl, hl⟩, p2⟩ := Post.grd p1
        obtain ⟨a, dx, vs, h1, h2, h3, h4⟩ := st1.setObj (fs' := putD f d fs) hi
        exact ⟨_, h1, a, _, dx, vs, rfl, h2, hcl, hna, by rw [h3.length]; exact hl, p2 σ G1 _ e1.g (h4 _ (h3.put r1))⟩
end DL
set_option Elab.async false
set_option linter.all false
set_option maxRecDepth 100000
set_option maxHeartbeats 4000000
set_option autoImplicit false
namespace DL
open PySem PySem.Spec PyProof.Rows L2
variable {S : Type} {X : Cx} {F : Fx S}
/-! ### built-ins by name -/
def CallD (F : Fx S) (r : List V → Hp → VK → Prop) (f : List D → M S D) : Prop := ∀ G σ H env s ds vs Q, StG F G σ H env s → RepL F.toCc G ds vs → Post F G H (f ds s) (K1 F G H σ env Q) → r vs H Q
def bcl (f : List D → M S D) (α : Env → M S (List D)) : Env → M S D := fun env => do f (← α env)
theorem tCB_of {r : List V → Hp → VK → Prop} {f : List D → M S D} {α : Env → M S (List D)} (hd : CallD F r f) (σ : L2.St) (H : Hp) (Q : VK) (h : tE F (bcl f α) σ H Q) : tCB r (tA F α) σ H Q := by
  obtain ⟨G, env, s, st, p⟩ := h
  refine seqA st p fun ds s1 vs G1 H1 e1 st1 r1 p1 => ?_
  exact hd G1 σ H1 env s1 ds vs Q st1 r1 (p1.K1 e1)
section
variable {x : Str} {p pos : Pos} {e : Expr} {es : List Expr} {α : Env → M S (List D)} {id T : String} {r : List V → Hp → VK → Prop} {f : List D → M S D}
theorem de_callB (hc : CallR X (.builtin id) r) (hd : CallD F r f) (hg : Gl X x) (hm : X.mg x = none) (hv : bootBuiltins x = some (.builtin id)) (ha : PA X (e :: es) (tA F α)) (hn : x ≠ "__name__" := by decide) (hdb : (x == ("__debug__" : Str)) = false := by decide)
    (he : starEach (e :: es) X.env = (false, eval e X.env) :: starEach es X.env := by rfl) (hpl : (backTo pos (starEach es X.env)).any (·.1) = false := by rfl) : PE X (.Call (.Name x p) (e :: es) [] pos) (tE F (bcl f α)) := pe_mono (pe_callB hc hg hm hv ha hn hdb he hpl) (tCB_of hd)
theorem de_callTy (hc : CallR X (.type T) r) (hd : CallD F r f) (hg : Gl X x) (hm : X.mg x = none) (hv : bootBuiltins x = some (.type T)) (ha : PA X (e :: es) (tA F α)) (hn : x ≠ "__name__" := by decide) (hdb : (x == ("__debug__" : Str)) = false := by decide)
    (he : starEach (e :: es) X.env = (false, eval e X.env) :: starEach es X.env := by rfl) (hpl : (backTo pos (starEach es X.env)).any (·.1) = false := by rfl) : PE X (.Call (.Name x p) (e :: es) [] pos) (tE F (bcl f α)) := pe_mono (pe_callTy hc hg hm hv ha hn hdb he hpl) (tCB_of hd)
end
/-! ### ints -/
def intOp (C : Int → Int → Prop) [∀ i j, Decidable (C i j)] (g : Int → Int → D) : D → D → M S D := fun x y => onInt (fun i => onInt (fun j => grd (C i j) (pure (g i j))) y) x
theorem opd_int {C : Int → Int → Prop} [∀ i j, Decidable (C i j)] {g : Int → Int → D} {h : Int → Int → V} (hr : ∀ i j G, Rep F.toCc G (g i j) (h i j)) : OpD F (rI C h) (intOp C g) := fun G σ H env s d e x y Q st rx ry p => by
  obtain ⟨i, rfl, p1⟩ := p.onInt
  obtain ⟨j, rfl, p2⟩ := p1.onInt
  obtain ⟨c, p3⟩ := p2.grd
  cases rx
  cases ry
  exact ⟨i, j, rfl, rfl, c, p3 _ G H (Ext.refl _ _ _) st (hr i j G)⟩
def intOp0 (g : Int → Int → D) : D → D → M S D := fun x y => onInt (fun i => onInt (fun j => pure (g i j)) y) x
theorem opd_int0 {g : Int → Int → D} {h : Int → Int → V} (hr : ∀ i j G, Rep F.toCc G (g i j) (h i j)) : OpD F (rI0 h) (intOp0 g) := fun G σ H env s d e x y Q st rx ry p => by
  obtain ⟨i, rfl, p1⟩ := p.onInt
  obtain ⟨j, rfl, p2⟩ := p1.onInt
  cases rx
  cases ry
  exact ⟨i, j, rfl, rfl, p2 _ G H (Ext.refl _ _ _) st (hr i j G)⟩
instance (i j : Int) : Decidable (CMul i j) := by unfold CMul; exact inferInstance
instance (i j : Int) : Decidable (CDiv i j) := by unfold CDiv; exact inferInstance
instance (i j : Int) : Decidable (CPow i j) := by unfold CPow; exact inferInstance
abbrev subD : D → D → M S D := intOp0 fun i j => .int (i - j)
abbrev mulD : D → D → M S D := intOp CMul fun i j => .int (i * j)
abbrev divD : D → D → M S D := intOp CDiv fun i j => .int (i / j)
abbrev modD : D → D → M S D := intOp (fun _ j => 0 < j) fun i j => .int (i % j)
abbrev powD : D → D → M S D := intOp CPow fun i j => .int (i ^ j.toNat)
theorem od_sub : OpD F (rI0 fun i j => .int (i - j)) subD := opd_int0 fun _ _ _ => rfl
theorem od_mul : OpD F (rI CMul fun i j => .int (i * j)) mulD := opd_int fun _ _ _ => rfl
theorem od_div : OpD F (rI CDiv fun i j => .int (i / j)) divD := opd_int fun _ _ _ => rfl
theorem od_mod : OpD F (rI (fun _ j => 0 < j) fun i j => .int (i % j)) modD := opd_int fun _ _ _ => rfl
theorem od_pow : OpD F (rI CPow fun i j => .int (i ^ j.toNat)) powD := opd_int fun _ _ _ => rfl
abbrev ltD : D → D → M S D := intOp0 fun i j => .bl (decide (i < j))
abbrev leD : D → D → M S D := intOp0 fun i j => .bl (decide (i ≤ j))
abbrev gtD : D → D → M S D := intOp0 fun i j => .bl (decide (j < i))
abbrev geD : D → D → M S D := intOp0 fun i j => .bl (decide (j ≤ i))
theorem od_lt : OpD F (rI0 fun i j => .bl (decide (i < j))) ltD := opd_int0 fun _ _ _ => rfl
theorem od_le : OpD F (rI0 fun i j => .bl (decide (i ≤ j))) leD := opd_int0 fun _ _ _ => rfl
theorem od_gt : OpD F (rI0 fun i j => .bl (decide (j < i))) gtD := opd_int0 fun _ _ _ => rfl
theorem od_ge : OpD F (rI0 fun i j => .bl (decide (j ≤ i))) geD := opd_int0 fun _ _ _ => rfl
def negD (τ : Env → M S D) : Env → M S D := fun env => do onInt (fun i => pure (.int (-i))) (← τ env)
theorem de_neg {a : Expr} {pos : Pos} {τ : Env → M S D} (ha : PE X a (tE F τ)) : PE X (.UnaryOp .USub a pos) (tE F (negD τ)) := pe_mono (pe_un un_neg ha) fun σ H Q ⟨G, env, s, st, p⟩ => by
  refine seqE st p fun d s1 v G1 H1 e1 st1 r1 p1 => ?_
  obtain ⟨i, rfl, p2⟩ := Post.onInt p1
  cases r1
  exact ⟨i, rfl, p2 _ G1 H1 e1 st1 rfl⟩
/-! ### a + b -/
def addD : D → D → M S D := fun x y => match x, y with
  | .int i, .int j => pure (.int (i + j))
  | .str i, .str j => grd (i.length + j.length ≤ sizeLine) (pure (.str (i ++ j)))
  | .lst a, .lst b => grd (a.length + b.length ≤ sizeLine) (pure (.lst (a ++ b)))
  | .tup a, .tup b => grd (a.length + b.length ≤ sizeLine) (pure (.tup (a ++ b)))
  | _, _ => stk
def rAddS : R2 := fun x y H Q => ∃ i j, x = .str i ∧ y = .str j ∧ i.length + j.length ≤ sizeLine ∧ Q (.str (i ++ j)) H
abbrev rAddAll (K : PySem.W.Frag) : R2 := fun x y H Q => rI0 (fun i j => .int (i + j)) x y H Q ∨ rAddS x y H Q ∨ rCat x y H Q ∨ rCatA K x y H Q
theorem or_add : OpR X (binaryOp .Add) (rAddAll X.K) := OpR_or op_add (OpR_or op_add_str (OpR_or op_cat op_catA))
theorem od_add (hK : X.K = F.K) : OpD F (rAddAll X.K) addD := fun G σ H env s d e x y Q st rx ry p => by
  rw [hK]
  cases d with
  | int i =>
    cases e with
    | int j => cases rx; cases ry; exact .inl ⟨i, j, rfl, rfl, p _ G H (Ext.refl _ _ _) st rfl⟩
    | _ => exact p.elim
  | str i =>
    cases e with
    | str j =>
      cases rx; cases ry
      obtain ⟨h, p1⟩ := Post.grd p
      exact .inr (.inl ⟨i, j, rfl, rfl, h, p1 _ G H (Ext.refl _ _ _) st rfl⟩)
    | _ => exact p.elim
  | lst a =>
    cases e with
    | lst b =>
      obtain ⟨l, vs, e1, q1, z1, r1⟩ := rx
      obtain ⟨m, us, e2, q2, z2, r2⟩ := ry
      obtain ⟨h, p1⟩ := Post.grd p
      have hz : vs.length + us.length ≤ sizeLine := by rw [r1.length, r2.length]; exact h
      refine .inr (.inr (.inl ⟨l, m, vs, us, e1, e2, st.gd.gh _ _ q1, st.gd.gh _ _ q2, hz, fun q nq => ?_⟩))
      obtain ⟨e3, st3⟩ := st.new nq (.lst (vs ++ us))
      exact p1 _ _ _ e3 st3 ⟨q, _, rfl, upd_same, by rw [List.length_append]; exact hz, (r1.append r2).mono e3.g⟩
    | _ => exact p.elim
  | tup a =>
    cases e with
    | tup b =>
      obtain ⟨l, vs, e1, q1, z1, r1⟩ := rx
      obtain ⟨m, us, e2, q2, z2, r2⟩ := ry
      obtain ⟨h, p1⟩ := Post.grd p
      have hz : vs.length + us.length ≤ sizeLine := by rw [r1.length, r2.length]; exact h
      refine .inr (.inr (.inr ⟨l, m, vs, us, e1, e2, SqT.sub st.gd.gh q1, SqT.sub st.gd.gh q2, hz, fun e => ?_, fun _ e => ?_, fun _ _ q nq => ?_⟩))
      · subst e
        have ha : a = [] := List.length_eq_zero_iff.mp r1.length.symm
        subst ha
        exact p1 _ G H (Ext.refl _ _ _) st ⟨m, us, rfl, q2, z2, r2⟩
      · subst e
        have hb : b = [] := List.length_eq_zero_iff.mp r2.length.symm
        subst hb
        rw [List.append_nil] at p1
        exact p1 _ G H (Ext.refl _ _ _) st ⟨l, vs, rfl, q1, z1, r1⟩
      · obtain ⟨e3, st3⟩ := st.new nq (.tup (vs ++ us))
        exact p1 _ _ _ e3 st3 ⟨q, _, rfl, SqT.upd, by rw [List.length_append]; exact hz, (r1.append r2).mono e3.g⟩
    | _ => exact p.elim
  | _ => exact p.elim
/-! ### == of plain data -/
mutual
def pd : D → Option PyData
  | .non => some .none
  | .bl b => some (.bool b)
  | .int i => some (.int i)
  | .str x => some (.str x)
  | .lst ds => (pdL ds).map .list
  | .tup ds => (pdL ds).map .tuple
  | _ => none
def pdL : List D → Option (List PyData)
  | [] => some []
  | d :: ds => match pd d, pdL ds with
    | some a, some b => some (a :: b)
    | _, _ => none
end
mutual
theorem pd_dp {C : Cc S} {G H : Hp} (h : Same G H) : ∀ {d : D} {v : V} {a : PyData}, Rep C G d v → pd d = some a → Dp C.K H v a
  | .non, _, _, r, e => by cases r; cases e; exact .non
  | .bl _, _, _, r, e => by cases r; cases e; exact .bl _
  | .int _, _, _, r, e => by cases r; cases e; exact .int _
  | .str _, _, _, r, e => by cases r; cases e; exact .str _
  | .lst ds, _, _, ⟨l, vs, ev, q, z, r⟩, e => by
    subst ev
    unfold pd at e
    obtain ⟨as, ea, rfl⟩ := Option.map_eq_some_iff.mp e
    exact .lst (.inl (.inl (h _ _ q))) (pdL_dp h r ea)
  | .tup ds, _, _, ⟨l, vs, ev, q, z, r⟩, e => by
    subst ev
    unfold pd at e
    obtain ⟨as, ea, rfl⟩ := Option.map_eq_some_iff.mp e
    exact .tup (SqT.sub h q) (pdL_dp h r ea)
  | .dct _, _, _, _, e => nomatch e
  | .ins _ _, _, _, _, e => nomatch e
  | .exc _ _, _, _, _, e => nomatch e
  | .hnd _, _, _, _, e => nomatch e
  | .dks _, _, _, _, e => nomatch e
  | .fn _, _, _, _, e => nomatch e
  | .adr _ _, _, _, _, e => nomatch e
  | .rps _, _, _, _, e => nomatch e
  | .scr _, _, _, _, e => nomatch e
theorem pdL_dp {C : Cc S} {G H : Hp} (h : Same G H) : ∀ {ds : List D} {vs : List V} {as : List PyData}, RepL C G ds vs → pdL ds = some as → DpAll C.K H vs as
  | [], _, _, r, e => by
    have e1 : _ = [] := r
    subst e1
    cases e
    exact .nil
  | d :: ds, _, _, ⟨v, us, ev, a, b⟩, e => by
    subst ev
    unfold pdL at e
    split at e
    · rename_i x y hx hy
      cases e
      exact .cons (pd_dp h a hx) (pdL_dp h b hy)
    · cases e
end
/-- == on plain data -/
def eqP (d e : D) : Option Bool := match pd d, pd e with
  | some a, some b => if SeqAt.shaped a = true ∧ SeqAt.shaped b = true then some (PyData.eqv a b) else none
  | _, _ => none
def eqD (neg : Bool) : D → D → M S D := fun d e => match eqP d e with
  | some b => pure (.bl (if neg then !b else b))
  | none => stk
theorem od_eq (hK : X.K = F.K) : OpD F (rEqD X.K) (eqD false) := fun G σ H env s d e x y Q st rx ry p => by
  rw [hK]
  unfold eqD eqP at p
  cases hd : pd d with
  | none => simp only [hd] at p; exact p.elim
  | some a =>
    cases he : pd e with
    | none => simp only [hd, he] at p; exact p.elim
    | some b =>
      simp only [hd, he] at p
      by_cases hs : SeqAt.shaped a = true ∧ SeqAt.shaped b = true
      · rw [if_pos hs] at p
        exact ⟨a, b, pd_dp st.gd.gh rx hd, pd_dp st.gd.gh ry he, hs.1, hs.2, p _ G H (Ext.refl _ _ _) st rfl⟩
      · rw [if_neg hs] at p; exact p.elim
theorem od_ne (hK : X.K = F.K) : OpD F (rNeD X.K) (eqD true) := fun G σ H env s d e x y Q st rx ry p => by
  rw [hK]
  unfold eqD eqP at p
  cases hd : pd d with
  | none => simp only [hd] at p; exact p.elim
  | some a =>
    cases he : pd e with
    | none => simp only [hd, he] at p; exact p.elim
    | some b =>
      simp only [hd, he] at p
      by_cases hs : SeqAt.shaped a = true ∧ SeqAt.shaped b = true
      · rw [if_pos hs] at p
        exact ⟨a, b, pd_dp st.gd.gh rx hd, pd_dp st.gd.gh ry he, hs.1, hs.2, p _ G H (Ext.refl _ _ _) st rfl⟩
      · rw [if_neg hs] at p; exact p.elim
/-! ### x in xs, flat data -/
def flatD : D → Bool
  | .non => true
  | .bl _ => true
  | .int _ => true
  | .str _ => true
  | _ => false
def eqF : D → D → Bool
  | .non, .non => true
  | .bl a, .bl b => a == b
  | .bl a, .int b => (if a then 1 else 0) == b
  | .int a, .bl b => a == (if b then 1 else 0)
  | .int a, .int b => a == b
  | .str a, .str b => a == b
  | _, _ => false
theorem flat_rep {C : Cc S} {G : Hp} {d : D} {v : V} (h : flatD d = true) (r : Rep C G d v) : flatV v = true := by
  cases d <;> first | exact Bool.noConfusion h | (cases r; rfl)
theorem eqF_rep {C : Cc S} {G : Hp} {d e : D} {v u : V} (h : flatD d = true) (h' : flatD e = true) (r : Rep C G d v) (r' : Rep C G e u) : eqV v u = eqF d e := by
  cases d <;> first | exact Bool.noConfusion h | (cases e <;> first | exact Bool.noConfusion h' | (cases r; cases r'; rfl))
theorem flatL_rep {C : Cc S} {G : Hp} : ∀ {ds : List D} {vs : List V}, ds.all flatD = true → RepL C G ds vs → vs.all flatV = true
  | [], _, _, r => by
    have e1 : _ = [] := r
    subst e1; rfl
  | d :: ds, _, h, ⟨v, us, ev, a, b⟩ => by
    subst ev
    rw [List.all_cons, Bool.and_eq_true] at h
    rw [List.all_cons, flat_rep h.1 a, flatL_rep h.2 b]; rfl
theorem inF_rep {C : Cc S} {G : Hp} {d : D} {v : V} (hd : flatD d = true) (rd : Rep C G d v) : ∀ {ds : List D} {vs : List V}, ds.all flatD = true → RepL C G ds vs → inV v vs = ds.any fun y => eqF y d
  | [], _, _, r => by
    have e1 : _ = [] := r
    subst e1; rfl
  | e :: ds, _, h, ⟨u, us, ev, a, b⟩ => by
    subst ev
    rw [List.all_cons, Bool.and_eq_true] at h
    have ih := inF_rep hd rd h.2 b
    unfold inV at ih ⊢
    rw [List.any_cons, List.any_cons, eqF_rep h.1 hd a rd, ih]
def inD (neg : Bool) : D → D → M S D := fun d e => onSeq (fun ds => grd (flatD d = true ∧ ds.all flatD = true) (pure (.bl (if neg then !(ds.any fun y => eqF y d) else ds.any fun y => eqF y d)))) e
theorem od_in (neg : Bool) (hK : X.K = F.K) : OpD F (rIn X.K neg) (inD neg) := fun G σ H env s d e x y Q st rx ry p => by
  rw [hK]
  obtain ⟨ds, he, p1⟩ := p.onSeq
  obtain ⟨⟨h1, h2⟩, p2⟩ := p1.grd
  rcases he with rfl | rfl
  · obtain ⟨a, vs, rfl, q, z, r⟩ := ry
    refine ⟨a, vs, rfl, .inl (.inl (.inl (st.gd.gh _ _ q))), flat_rep h1 rx, flatL_rep h2 r, ?_⟩
    rw [inF_rep h1 rx h2 r]
    exact p2 _ G H (Ext.refl _ _ _) st rfl
  · obtain ⟨a, vs, rfl, q, z, r⟩ := ry
    refine ⟨a, vs, rfl, .inr (SqT.sub st.gd.gh q), flat_rep h1 rx, flatL_rep h2 r, ?_⟩
    rw [inF_rep h1 rx h2 r]
    exact p2 _ G H (Ext.refl _ _ _) st rfl
/-! ### xs[i] -/
def ixD : D → D → M S D := fun d e => onSeq (fun ds => onInt (fun i => match atI ds i with
  | some x => pure x
  | none => stk) e) d
theorem atI_rep {C : Cc S} {G : Hp} {ds : List D} {vs : List V} {i : Int} {d : D} (r : RepL C G ds vs) (h : atI ds i = some d) : ∃ v, atI vs i = some v ∧ Rep C G d v := by
  unfold atI at h ⊢
  rw [r.length]
  obtain ⟨j, hj, hd⟩ := Option.bind_eq_some_iff.mp h
  obtain ⟨v, hv, rv⟩ := r.get hd
  exact ⟨v, by rw [hj]; exact hv, rv⟩
theorem od_ix (hK : X.K = F.K) : OpD F (rIx X.K) ixD := fun G σ H env s d e x y Q st rx ry p => by
  rw [hK]
  obtain ⟨ds, he, p1⟩ := p.onSeq
  obtain ⟨i, rfl, p2⟩ := p1.onInt
  cases ry
  cases hi : atI ds i with
  | none => rw [hi] at p2; exact p2.elim
  | some z =>
    rw [hi] at p2
    rcases he with rfl | rfl
    · obtain ⟨a, vs, rfl, q, _, r⟩ := rx
      obtain ⟨v, hv, rv⟩ := atI_rep r hi
      exact .inl ⟨a, vs, i, v, rfl, rfl, .inl (.inl (st.gd.gh _ _ q)), hv, p2 _ G H (Ext.refl _ _ _) st rv⟩
    · obtain ⟨a, vs, rfl, q, _, r⟩ := rx
      obtain ⟨v, hv, rv⟩ := atI_rep r hi
      exact .inr (.inl ⟨a, vs, i, v, rfl, rfl, SqT.sub st.gd.gh q, hv, p2 _ G H (Ext.refl _ _ _) st rv⟩)
/-! ### slices -/
def cutD (xs : List D) (lo hi : Option Int) : List D := (xs.drop (HT.sIx xs.length 0 lo)).take (HT.sIx xs.length xs.length hi - HT.sIx xs.length 0 lo)
theorem RepL.drop {C : Cc S} {G : Hp} : ∀ (n : Nat) {ds : List D} {vs : List V}, RepL C G ds vs → RepL C G (ds.drop n) (vs.drop n)
  | 0, _, _, r => r
  | n + 1, [], _, r => by
    have e1 : _ = [] := r
    subst e1; rfl
  | n + 1, _ :: _, _, ⟨v, us, ev, a, b⟩ => by subst ev; exact b.drop n
theorem RepL.take {C : Cc S} {G : Hp} : ∀ (n : Nat) {ds : List D} {vs : List V}, RepL C G ds vs → RepL C G (ds.take n) (vs.take n)
  | 0, _, _, _ => rfl
  | n + 1, [], _, r => by
    have e1 : _ = [] := r
    subst e1; rfl
  | n + 1, _ :: _, _, ⟨v, us, ev, a, b⟩ => by subst ev; exact ⟨v, us.take n, rfl, a, b.take n⟩
theorem RepL.cut {C : Cc S} {G : Hp} {ds : List D} {vs : List V} (r : RepL C G ds vs) (lo hi : Option Int) : RepL C G (cutD ds lo hi) (cutV vs lo hi) := by
  unfold cutD cutV
  rw [r.length]
  exact (r.drop _).take _
def tO (F : Fx S) (τ : Env → M S (Option Int)) : TO := fun σ H Q => ∃ G env s, StG F G σ H env s ∧
  Post F G H (τ env s) fun d s' => ∀ G' H', Ext F.reg G H G' H' → StG F G' σ H' env s' → Q d H'
def oNone : Env → M S (Option Int) := fun _ => pure none
def oSome (τ : Env → M S D) : Env → M S (Option Int) := fun env => do onInt (fun i => pure (some i)) (← τ env)
theorem po_mono {e : Option Expr} {t t' : TO} (h : PO X e t) (m : ∀ σ H Q, t' σ H Q → t σ H Q) : PO X e t' := ⟨fun pins s σ H Q I q => h.run pins s σ H Q I (m σ H Q q)⟩
theorem do_none : PO X none (tO F oNone) := po_mono po_none fun σ H Q ⟨G, env, s, st, p⟩ => p G H (Ext.refl _ _ _) st
theorem do_some {e : Expr} {τ : Env → M S D} (h : PE X e (tE F τ)) : PO X (some e) (tO F (oSome τ)) := po_mono (po_some h) fun σ H Q ⟨G, env, s, st, p⟩ => by
  refine seqE st p fun d s1 v G1 H1 e1 st1 r1 p1 => ?_
  obtain ⟨i, rfl, p2⟩ := Post.onInt p1
  cases r1
  exact ⟨i, rfl, p2 G1 H1 e1 st1⟩
def slcD (τ : Env → M S D) (lo hi : Env → M S (Option Int)) : Env → M S D := fun env => do
  let d ← τ env
  let l ← lo env
  let h ← hi env
  match d with
  | .lst ds => pure (.lst (cutD ds l h))
  | .tup ds => pure (.tup (cutD ds l h))
  | _ => stk
theorem seqO {α : Type} {τ : Env → M S (Option Int)} {k : Option Int → S → Res S α} {G H : Hp} {σ : L2.St} {env : Env} {s : S} {P : α → S → Prop} {Q : Option Int → Hp → Prop} (st : StG F G σ H env s) (p : Post F G H ((τ env s).bind k) P)
    (h : ∀ b s1 G1 H1, Ext F.reg G H G1 H1 → StG F G1 σ H1 env s1 → Post F G1 H1 (k b s1) P → Q b H1) : tO F τ σ H Q :=
  ⟨G, env, s, st, p.bind.mono fun d s1 _ hk G1 H1 e1 st1 => h d s1 G1 H1 e1 st1 (hk.later e1.g)⟩
theorem de_slice {e : Expr} {lo hi : Option Expr} {p2 pos : Pos} {τ : Env → M S D} {l h : Env → M S (Option Int)} (hK : X.K = F.K) (he : PE X e (tE F τ)) (hl : PO X lo (tO F l)) (hu : PO X hi (tO F h)) : PE X (.Subscript e (.Slice lo hi none p2) pos) (tE F (slcD τ l h)) :=
  pe_mono (pe_slice (sl_list.or sl_tupA) he hl hu) fun σ H Q ⟨G, env, s, st, p⟩ => by
    refine seqE st p fun d s1 v G1 H1 e1 st1 r1 p1 => ?_
    refine seqO st1 p1 fun l s2 G2 H2 e2 st2 p2 => ?_
    refine seqO st2 p2 fun h s3 G3 H3 e3 st3 p3 => ?_
    have r3 := r1.mono (e2.trans e3).g
    have e13 := (e1.trans e2).trans e3
    rw [hK]
    cases d with
    | lst ds =>
      obtain ⟨a, vs, rfl, q, z, r⟩ := r3
      refine .inl ⟨a, vs, rfl, .inl (.inl (st3.gd.gh _ _ q)), fun q nq => ?_⟩
      obtain ⟨e4, st4⟩ := st3.new nq (.lst (cutV vs l h))
      exact p3 _ _ _ (e13.trans e4) st4 ⟨q, _, rfl, upd_same, Nat.le_trans (cutV_length _ _ _) z, (r.cut l h).mono e4.g⟩
    | tup ds =>
      obtain ⟨a, vs, rfl, q, z, r⟩ := r3
      refine .inr ⟨a, vs, rfl, SqT.sub st3.gd.gh q, fun hw => ?_, fun _ q nq => ?_⟩
      · have ec : cutV vs l h = vs := by
          unfold cutV
          rw [hw.1, hw.2, List.drop_zero, Nat.sub_zero, List.take_length]
        have rc := r.cut l h
        rw [ec] at rc
        exact p3 _ G3 H3 e13 st3 ⟨a, vs, rfl, q, z, rc⟩
      · obtain ⟨e4, st4⟩ := st3.new nq (.tup (cutV vs l h))
        exact p3 _ _ _ (e13.trans e4) st4 ⟨q, _, rfl, SqT.upd, Nat.le_trans (cutV_length _ _ _) z, (r.cut l h).mono e4.g⟩
    | _ => exact p3.elim
/-! ### built-ins -/
def lenD : List D → M S D := a1 fun d => match d with
  | .str x => grd (x.length ≤ sizeLine) (pure (.int x.length))
  | .lst ds => pure (.int ds.length)
  | .tup ds => pure (.int ds.length)
  | .scr ns => pure (.int ns.length)
  | _ => stk
theorem cd_len (hK : X.K = F.K) : CallD F (fun xs H Q => ∃ x n, xs = [x] ∧ LenV X.K x H n ∧ Q (.int n) H) lenD := fun G σ H env s ds vs Q st r p => by
  rw [hK]
  obtain ⟨d, rfl, p1⟩ := p.a1
  obtain ⟨v, rfl, rv⟩ := r.r1
  cases d with
  | str x =>
    cases rv
    obtain ⟨h, p2⟩ := Post.grd p1
    exact ⟨_, _, rfl, ⟨h, rfl⟩, p2 _ G H (Ext.refl _ _ _) st rfl⟩
  | lst ds =>
    obtain ⟨a, us, rfl, q, z, rl⟩ := rv
    exact ⟨_, _, rfl, .inl ⟨us, .inl (.inl (st.gd.gh _ _ q)), rl.length.symm⟩, p1 _ G H (Ext.refl _ _ _) st rfl⟩
  | tup ds =>
    obtain ⟨a, us, rfl, q, z, rl⟩ := rv
    exact ⟨_, _, rfl, .inr ⟨us, SqT.sub st.gd.gh q, rl.length.symm⟩, p1 _ G H (Ext.refl _ _ _) st rfl⟩
  | scr ns =>
    obtain ⟨a, rfl, q⟩ := rv
    exact ⟨_, _, rfl, .inl ⟨_, st.gd.gh.seq q, by rw [List.length_map]⟩, p1 _ G H (Ext.refl _ _ _) st rfl⟩
  | _ => exact p1.elim
def absD : List D → M S D := a1 fun d => onInt (fun i => pure (.int (if i < 0 then -i else i))) d
theorem cd_abs : CallD F (fun xs H Q => ∃ i, xs = [.int i] ∧ Q (.int (if i < 0 then -i else i)) H) absD := fun G σ H env s ds vs Q st r p => by
  obtain ⟨d, rfl, p1⟩ := p.a1
  obtain ⟨i, rfl, p2⟩ := p1.onInt
  obtain ⟨v, rfl, rv⟩ := r.r1
  cases rv
  exact ⟨i, rfl, p2 _ G H (Ext.refl _ _ _) st rfl⟩
def int1D : List D → M S D := a1 fun d => match d with
  | .int i => pure (.int i)
  | .bl k => pure (.int (if k then 1 else 0))
  | _ => stk
theorem cd_int1 : CallD F (fun xs H Q => (∃ i, xs = [.int i] ∧ Q (.int i) H) ∨ ∃ k, xs = [.bl k] ∧ Q (.int (if k then 1 else 0)) H) int1D := fun G σ H env s ds vs Q st r p => by
  obtain ⟨d, rfl, p1⟩ := p.a1
  obtain ⟨v, rfl, rv⟩ := r.r1
  cases d with
  | int i => cases rv; exact .inl ⟨i, rfl, p1 _ G H (Ext.refl _ _ _) st rfl⟩
  | bl k => cases rv; exact .inr ⟨k, rfl, p1 _ G H (Ext.refl _ _ _) st rfl⟩
  | _ => exact p1.elim
def min2D : List D → M S D := a2 fun d e => onInt (fun i => onInt (fun j => pure (.int (if j < i then j else i))) e) d
theorem cd_min2 : CallD F (fun xs H Q => ∃ i j, xs = [.int i, .int j] ∧ Q (.int (if j < i then j else i)) H) min2D := fun G σ H env s ds vs Q st r p => by
  obtain ⟨d, e, rfl, p1⟩ := p.a2
  obtain ⟨i, rfl, p2⟩ := p1.onInt
  obtain ⟨j, rfl, p3⟩ := p2.onInt
  obtain ⟨v, w, rfl, rv, rw_⟩ := r.r2
  cases rv
  cases rw_
  exact ⟨i, j, rfl, p3 _ G H (Ext.refl _ _ _) st rfl⟩
def listD : List D → M S D := a1 (onSeq fun ds => pure (.lst ds))
theorem cd_list (hK : X.K = F.K) : CallD F (fun xs H Q => ∃ p ys, xs = [.ref p] ∧ (SqL X.K H p ys ∨ SqT X.K H p ys) ∧ ∀ l, H l = none → Q (.ref l) (upd H l (.lst ys))) listD := fun G σ H env s ds vs Q st r p => by
  rw [hK]
  obtain ⟨d, rfl, p1⟩ := p.a1
  obtain ⟨v, rfl, rv⟩ := r.r1
  obtain ⟨ds, hd, p2⟩ := p1.onSeq
  rcases hd with rfl | rfl
  · obtain ⟨a, us, rfl, q, z, rl⟩ := rv
    refine ⟨a, us, rfl, .inl (.inl (.inl (st.gd.gh _ _ q))), fun q nq => ?_⟩
    obtain ⟨e4, st4⟩ := st.new nq (.lst us)
    exact p2 _ _ _ e4 st4 ⟨q, us, rfl, upd_same, z, rl.mono e4.g⟩
  · obtain ⟨a, us, rfl, q, z, rl⟩ := rv
    refine ⟨a, us, rfl, .inr (SqT.sub st.gd.gh q), fun q nq => ?_⟩
    obtain ⟨e4, st4⟩ := st.new nq (.lst us)
    exact p2 _ _ _ e4 st4 ⟨q, us, rfl, upd_same, z, rl.mono e4.g⟩
def tupleD : List D → M S D := a1 (onSeq fun ds => pure (.tup ds))
theorem cd_tuple (hK : X.K = F.K) : CallD F (fun xs H Q => ∃ p ys, xs = [.ref p] ∧ ((SqL X.K H p ys ∧ ∀ l, H l = none → Q (.ref l) (upd H l (.tup ys))) ∨ (SqT X.K H p ys ∧ Q (.ref p) H))) tupleD := fun G σ H env s ds vs Q st r p => by
  rw [hK]
  obtain ⟨d, rfl, p1⟩ := p.a1
  obtain ⟨v, rfl, rv⟩ := r.r1
  obtain ⟨ds, hd, p2⟩ := p1.onSeq
  rcases hd with rfl | rfl
  · obtain ⟨a, us, rfl, q, z, rl⟩ := rv
    refine ⟨a, us, rfl, .inl ⟨.inl (.inl (st.gd.gh _ _ q)), fun q nq => ?_⟩⟩
    obtain ⟨e4, st4⟩ := st.new nq (.tup us)
    exact p2 _ _ _ e4 st4 ⟨q, us, rfl, SqT.upd, z, rl.mono e4.g⟩
  · obtain ⟨a, us, rfl, q, z, rl⟩ := rv
    exact ⟨a, us, rfl, .inr ⟨SqT.sub st.gd.gh q, p2 _ G H (Ext.refl _ _ _) st ⟨a, us, rfl, q, z, rl⟩⟩⟩
/-- a list of bools, of ints -/
def blsD : List D → Option (List Bool)
  | [] => some []
  | .bl b :: ds => (blsD ds).map (b :: ·)
  | _ => none
def intsD : List D → Option (List Int)
  | [] => some []
  | .int b :: ds => (intsD ds).map (b :: ·)
  | _ => none
theorem blsD_rep {C : Cc S} {G : Hp} : ∀ {ds : List D} {vs : List V} {bs : List Bool}, RepL C G ds vs → blsD ds = some bs → vs = bs.map V.bl := fun {ds} => by
  induction ds with
  | nil => intro vs bs r e; cases e; exact r
  | cons d ds ih =>
    rintro vs bs ⟨v, us, ev, a, q⟩ e
    cases d with
    | bl b =>
      have e : (blsD ds).map (b :: ·) = some bs := e
      obtain ⟨as, ea, rfl⟩ := Option.map_eq_some_iff.mp e
      subst ev
      cases a
      rw [ih q ea]; rfl
    | _ => cases (show (none : Option _) = some _ from e)
theorem intsD_rep {C : Cc S} {G : Hp} : ∀ {ds : List D} {vs : List V} {bs : List Int}, RepL C G ds vs → intsD ds = some bs → vs = bs.map V.int := fun {ds} => by
  induction ds with
  | nil => intro vs bs r e; cases e; exact r
  | cons d ds ih =>
    rintro vs bs ⟨v, us, ev, a, q⟩ e
    cases d with
    | int b =>
      have e : (intsD ds).map (b :: ·) = some bs := e
      obtain ⟨as, ea, rfl⟩ := Option.map_eq_some_iff.mp e
      subst ev
      cases a
      rw [ih q ea]; rfl
    | _ => cases (show (none : Option _) = some _ from e)
theorem intsD_of (ns : List Int) : intsD (ns.map D.int) = some ns := by
  induction ns with
  | nil => rfl
  | cons n ns ih => show (intsD (ns.map D.int)).map (n :: ·) = _; rw [ih]; rfl
theorem blsD_of (ns : List Bool) : blsD (ns.map D.bl) = some ns := by
  induction ns with
  | nil => rfl
  | cons n ns ih => show (blsD (ns.map D.bl)).map (n :: ·) = _; rw [ih]; rfl
theorem RepL.ints {C : Cc S} {G : Hp} : ∀ (ns : List Int), RepL C G (ns.map D.int) (ns.map V.int)
  | [] => rfl
  | n :: ns => ⟨_, _, rfl, rfl, RepL.ints ns⟩
def allD (any : Bool) : List D → M S D := a1 (onLst fun ds => match blsD ds with
  | some bs => pure (.bl (if any then bs.any id else bs.all id))
  | none => stk)
theorem cd_all (hK : X.K = F.K) : CallD F (rAll X.K) (allD false) := fun G σ H env s ds vs Q st r p => by
  rw [hK]
  obtain ⟨d, rfl, p1⟩ := p.a1
  obtain ⟨v, rfl, rv⟩ := r.r1
  obtain ⟨ds, rfl, p2⟩ := p1.onLst
  obtain ⟨a, us, rfl, q, z, rl⟩ := rv
  cases hb : blsD ds with
  | none => rw [hb] at p2; exact p2.elim
  | some bs =>
    rw [hb] at p2
    have e := blsD_rep rl hb
    subst e
    exact ⟨a, bs, rfl, .inl (.inl (st.gd.gh _ _ q)), p2 _ G H (Ext.refl _ _ _) st rfl⟩
/-- sorted, of ints -/
def srt (ns : List Int) : List Int := ns.mergeSort (fun a b => decide (a ≤ b))
theorem srt_perm (ns : List Int) : (srt ns).Perm ns := List.mergeSort_perm _ _
theorem srt_sorted (ns : List Int) : (srt ns).Pairwise (· ≤ ·) := by
  have h := List.pairwise_mergeSort (le := fun (a b : Int) => decide (a ≤ b)) (fun a b c h1 h2 => by simp at *; omega) (fun a b => by simp; omega) ns
  exact h.imp fun {a b} h => by simpa using h
theorem sorted_unique : ∀ {xs ys : List Int}, xs.Perm ys → xs.Pairwise (· ≤ ·) → ys.Pairwise (· ≤ ·) → xs = ys := fun {xs ys} h h1 h2 =>
  h.eq_of_pairwise (fun a b _ _ h3 h4 => Int.le_antisymm h3 h4) h1 h2
def sortD : List D → M S D := a1 (onLst fun ds => match intsD ds with
  | some bs => pure (.lst ((srt bs).map D.int))
  | none => stk)
theorem cd_sort (hK : X.K = F.K) : CallD F (rSortedI X.K) sortD := fun G σ H env s ds vs Q st r p => by
  rw [hK]
  obtain ⟨d, rfl, p1⟩ := p.a1
  obtain ⟨v, rfl, rv⟩ := r.r1
  obtain ⟨ds, rfl, p2⟩ := p1.onLst
  obtain ⟨a, us, rfl, q, z, rl⟩ := rv
  cases hb : intsD ds with
  | none => rw [hb] at p2; exact p2.elim
  | some bs =>
    rw [hb] at p2
    have e := intsD_rep rl hb
    subst e
    refine ⟨a, bs, rfl, .inl (.inl (st.gd.gh _ _ q)), fun ns' l hp hs nl => ?_⟩
    have ens : ns' = srt bs := sorted_unique (hp.trans (srt_perm bs).symm) hs (srt_sorted bs)
    subst ens
    obtain ⟨e4, st4⟩ := st.new nl (.lst ((srt bs).map V.int))
    refine p2 _ _ _ e4 st4 ⟨l, _, rfl, upd_same, ?_, RepL.ints _⟩
    rw [List.length_map] at z ⊢
    rw [(srt_perm bs).length_eq]; exact z
/-- len(set(xs)), of ints -/
def dedup (ns : List Int) : List Int := ns.foldl step_dedup []
def lenSetI : D → M S D := onLst fun ds => match intsD ds with
  | some ns => grd (ns.length ≤ 4000) (pure (.int (dedup ns).length))
  | none => stk
def lenSetD (τ : Env → M S D) : Env → M S D := fun env => do lenSetI (← τ env)
theorem firstMet_all (ns : List Int) : firstMet (fun i => ns.getD i 0) ns.length = dedup ns := by
  unfold firstMet dedup
  congr 1
  apply List.ext_getElem?
  intro i
  rw [List.getElem?_map]
  by_cases h : i < ns.length
  · rw [List.getElem?_range h, List.getElem?_eq_getElem h]; simp [h]
  · rw [List.getElem?_eq_none (by simpa using h), List.getElem?_eq_none (by omega)]; rfl
def tLenSet (K : PySem.W.Frag) (ta : TE) : TE := fun σ H Q => ta σ H fun x H1 => ∃ (l : Addr) (ns : List Int), x = .ref l ∧ SqL K H1 l (ns.map V.int) ∧ ns.length ≤ 4000 ∧ Q (.int (dedup ns).length) H1
theorem pe_lenSet {a : Expr} {ta : TE} {p p2 q pos : Pos} (hg : Gl X "len") (hm : X.mg "len" = none) (hg2 : Gl X "set") (hm2 : X.mg "set" = none) (ha : PE X a ta) (hc : X.calm = true := by rfl)
    (na : starEach [a] X.env = (false, eval a X.env) :: starEach [] X.env := by rfl) : PE X (.Call (.Name "len" p) [.Call (.Name "set" p2) [a] [] q] [] pos) (tLenSet X.K ta) := by
  refine ⟨fun pins s σ H Q I h => ?_⟩
  refine Call_ (ld_blt I hg hm boot_len ?_)
  refine PyProof.Rows.callWith_builtin1 (PyProof.Rows.args_cons ?_ rfl) rfl rfl
  refine Call_ (ld_blt I hg2 hm2 boot_set ?_)
  refine PyProof.Rows.callWith_type1 (PyProof.Rows.args_cons (thn (ha.run pins s σ H _ I h) fun v s1 ⟨x, H1, I1, r1, q1⟩ => PyProof.Rows.args_nil ?_) na) na rfl
  obtain ⟨l, ns, rfl, hq, hl, q1⟩ := q1
  cases r1
  obtain ⟨its, r, pl, hz⟩ := I1.list hq
  have hlen : its.toArray.size = ns.length := by rw [List.size_toArray, ← r.length, List.length_map]
  refine call_set_list (I1.ok.hd hc) pl.isList (by simpa using RZ.intsAre_vals r) (by rw [hlen]; unfold scanBound; omega) fun h' tk hS hk => ?_
  refine PyProof.Rows.args_nil ?_
  rw [hlen, firstMet_all] at hS
  have hdl : (dedup ns).length ≤ ns.length := by rw [← firstMet_all]; exact firstMet_length_le _ _
  obtain ⟨o, es, ep, t, ho, hex, hd, _, _, _, hf, hn⟩ := hS
  have I2 : Inv X pins σ H1 { s1 with heap := h', toks := tk } := I1.kept fun b o e => hk b o (Heap.lt_size e) e
  exact call_len_set ho hex hd hf (by rw [hn]; omega) ⟨.int (dedup ns).length, H1, I2.tok _, ⟨_, by rw [hn]⟩, q1⟩
theorem de_lenSet {a : Expr} {τ : Env → M S D} {p p2 q pos : Pos} (hK : X.K = F.K) (hg : Gl X "len") (hm : X.mg "len" = none) (hg2 : Gl X "set") (hm2 : X.mg "set" = none) (ha : PE X a (tE F τ)) (hc : X.calm = true := by rfl)
    (na : starEach [a] X.env = (false, eval a X.env) :: starEach [] X.env := by rfl) : PE X (.Call (.Name "len" p) [.Call (.Name "set" p2) [a] [] q] [] pos) (tE F (lenSetD τ)) := pe_mono (pe_lenSet hg hm hg2 hm2 ha hc na) fun σ H Q ⟨G, env, s, st, p⟩ => by
  rw [hK]
  refine seqE st p fun d s1 v G1 H1 e1 st1 r1 p1 => ?_
  obtain ⟨ds, rfl, p2⟩ := Post.onLst p1
  obtain ⟨a, us, rfl, q, z, rl⟩ := r1
  cases hb : intsD ds with
  | none => rw [hb] at p2; exact p2.elim
  | some bs =>
    rw [hb] at p2
    obtain ⟨h, p3⟩ := Post.grd p2
    have e := intsD_rep rl hb
    subst e
    exact ⟨a, bs, rfl, .inl (.inl (st1.gd.gh _ _ q)), h, p3 _ G1 H1 e1 st1 rfl⟩
end DL
set_option Elab.async false
set_option linter.all false
set_option maxRecDepth 100000
set_option maxHeartbeats 4000000
set_option autoImplicit false
namespace PySem.W
open PySem PySem.Calls PyProof.Rows Builtin
section
variable {prog : Program} {w : World} {A : Around} {E : Value → Shared → Prop} {s : Shared} {K : Frag} {x C L f : Addr} {h₀ : Heap} {m : Str → Option Value} {ox : Obj} {od : Option Obj} {b tb : Value}
theorem dl_neBind (self : Value) : bindSpecial (.builtin "object.__ne__") self = pure (.builtin "object.__ne__", [self]) :=
  (Slot.of (T := "object") (name := "__ne__") (owner := "object") (n := "__ne__") (by rw [typeLookup_type, builtinLookup_eq_fast]; kernel_rfl) (by decide +kernel) (by decide +kernel) (by decide +kernel)
    (.inl (by decide +kernel)) (by rw [isSubtype_type]; kernel_rfl)).bind self
theorem dl_nePlain : plainId "object.__ne__" = true := by decide +kernel
/-- a != b by the own == of a's class -/
theorem dl_ne {Q : Value → Shared → Prop} (hu : A.units + 1 < cLine) (F : Fr h₀ L s.heap m) (X₀ : K.In h₀) (I : InstAt s.heap x ox C od) (hb : Looks (model prog w) s.heap (typeOf b) tb) (hn : notFirst K C tb = true)
    (hne : findIn K (.ref C) "__ne__" = some (some (.builtin "object.__ne__"))) (hob : mroIn K C (.type "object") = some true) (he : findIn K (.ref C) "__eq__" = some (some (.ref f))) (hf : isFn K (.ref f) = true)
    (h : wpAny (model prog w) A.in1 (call (.ref f) [.ref x, b]) (fun v s' => ∃ k, v = .bool k ∧ Q (.bool (!k)) s') E s) : wpAny (model prog w) A (richCompare .NotEq (.ref x) b) Q E s := by
  have X := X₀.keeps F.keep
  have inst : Looks (model prog w) s.heap (isInstance (.ref x) (.type "object")) true := I.type.andThen (looks_mroIn X hob)
  have body : ∀ {Q' : Fin → Shared → Prop}, wpAny (model prog w) A.in1 (call (.ref f) [.ref x, b]) (fun v s' => ∃ k, v = .bool k ∧ Q' (.done (.ret (.bool (!k)))) s') E s →
      wpAny (model prog w) A.in1 (Builtin.«object.__ne__» ⟨[.ref x, b], []⟩) Q' E s := fun {Q'} hc => by
    unfold Builtin.«object.__ne__»
    repeat (first
      | with_reducible refine wpAny_cRoomFor hu ?_
      | (refine wpAny_bind (m := callSpecialIfBound? (.ref x) (Str.ofString "__eq__") [b])
          (ifBound_K X I he hf (wpAny_mono hc (fun r s' hr => by
            obtain ⟨k, rfl, hq⟩ := hr
            repeat (first | exact hq | exact wpAny_pure hq | exact wpAny_truthy_bool hq | (refine wpAny_bind (m := truthy (.bool _)) (wpAny_truthy_bool ?_)) | wp_step)) fun _ _ e => e)))
      | wp_step)
  have ifB : ∀ {Q' : Option Value → Shared → Prop}, wpAny (model prog w) A.in1 (call (.ref f) [.ref x, b]) (fun v s' => ∃ k, v = .bool k ∧ Q' (some (.bool (!k))) s') E s → wpAny (model prog w) A (callSpecialIfBound? (.ref x) (cmpInfo .NotEq).2.1 [b]) Q' E s := fun {Q'} hc => by
    simp only [callSpecialIfBound?, bindSpecialIfBound?]
    refine wpAny_holding (wpAny_bind (wpAny_bind (wpAny_bind (I.type.here ((looks_findIn X (show findIn K (.ref C) (cmpInfo .NotEq).2.1 = _ from hne)).here ?_)))))
    refine wpAny_bind (wpAny_askSetting (wpAny_ite ?_))
    have fin : wpAny (model prog w) A (call (.builtin "object.__ne__") ([.ref x] ++ [b]) >>= fun v => pure (some v)) Q' E s := by
      refine wpAny_bind (wpAny_call (codeAny_call_builtin dl_nePlain PySem.F.cmpEntry_ne (check_slot PySem.F.cmpKind_ne PySem.F.cmpSplit_ne inst (PySem.F.cmpArgs_ne _ _) (body ?_))))
      refine wpAny_mono hc (fun v s' hv => ?_) fun _ _ e => e
      obtain ⟨k, rfl, hq⟩ := hv
      exact ⟨k, rfl, wpAny_pure hq⟩
    rw [dl_neBind]
    split
    · exact wpAny_bind (wpAny_pure (wpAny_pure (by exact fin)))
    · exact wpAny_tryCatch (wpAny_bind (wpAny_pure (wpAny_pure (by exact fin))))
  have one : wpAny (model prog w) A (tryCompare (.ref x) (cmpInfo .NotEq).2.1 b) (fun r s' => ∃ v, r = some v ∧ Q v s') E s := by
    unfold tryCompare
    refine wpAny_bind (ifB (wpAny_mono h (fun v s' hv => ?_) fun _ _ e => e))
    obtain ⟨k, rfl, hq⟩ := hv
    exact ⟨k, rfl, wpAny_pure ⟨_, rfl, hq⟩⟩
  unfold richCompare
  simp only [oneThing_ref]
  refine wpAny_holding (wpAny_bind (wpAny_cRoomFor (Nat.lt_of_succ_lt hu) ?_))
  refine wpAny_bind (I.type.here (wpAny_bind (hb.here ?_)))
  split
  · rename_i q
    have e : subIn K tb (.ref C) = some false := by
      rcases Bool.or_eq_true_iff.mp hn with e | e
      · rw [beq_iff_eq.mp e] at q; simp at q
      · exact beq_iff_eq.mp e
    refine wpAny_bind ((looks_subIn X e).here ?_)
    simp only [Bool.false_eq_true, if_false]
    refine wpAny_bind (wpAny_mono one (fun r s' z => ?_) fun _ _ e => e)
    obtain ⟨v, rfl, hq⟩ := z
    exact wpAny_pure hq
  · refine wpAny_bind (wpAny_pure ?_)
    simp only [Bool.false_eq_true, if_false]
    refine wpAny_bind (wpAny_mono one (fun r s' z => ?_) fun _ _ e => e)
    obtain ⟨v, rfl, hq⟩ := z
    exact wpAny_pure hq
end
end PySem.W
set_option Elab.async false
set_option linter.all false
set_option maxRecDepth 100000
set_option maxHeartbeats 4000000
set_option autoImplicit false
namespace DL
open PySem PySem.Spec PyProof.Rows L2
variable {S : Type} {X : Cx} {F : Fx S}
/-! ### operators of an own class -/
section
variable {CX : CXT} {k : Nat} {f C : Addr} {fd : FuncData} {ps : List Str} {sp : Sp} {E : XK}
/-- the instance as the library's rules see it -/
theorem inst_of {pins : List (Addr × Obj)} {σ : L2.St} {H : Hp} {s : Shared} {a dx : Addr} {fs : List (Str × V)} (I : Inv X pins σ H s) (ea : H a = some (.ins C dx fs)) : ∃ od, PySem.W.InstAt s.heap a (PySem.W.instObj C dx) C (some od) := by
  obtain ⟨mA, O, _⟩ := ins_get I.hok ea
  obtain ⟨od, J, _⟩ := O.look
  exact ⟨od, J⟩
/-- a callee run one level in -/
theorem run_in1 {pins : List (Addr × Obj)} {σ : L2.St} {H : Hp} {s : Shared} {Q : VK} {us : List Value} {vs : List V} {E' : Value → Shared → Prop} (G : FnOk X.prog X.w X.K X.mg X.base CX k f fd ps sp) (hr : Room (k + 1) X.A) (hb : Binds X.K fd ps []) (hx : Passes CX X.nox E)
    (I : Inv X pins σ H s) (r : Vals vs us) (h : sp vs H Q E) : wpAny (model X.prog X.w) X.A.in1 (call (.ref f) us) (EP X pins σ Q) E' s := by
  have hl : us.length = ps.length := by rw [← r.length]; exact G.len _ _ _ _ h
  refine wpAny_call (codeAny_mono (G.run X.A.in1 X.stack s H ⟨us, []⟩ us vs Q E hr.in1 I.env0.in1 (by
    have := hb s us I.kIn (by rw [List.append_nil]; exact hl)
    rw [List.append_nil] at this
    exact this) r h) fun r s' hq => ?_)
  cases r with
  | error er => exact False.elim (hx pins σ H s er s' (I.wish _) hq)
  | ok fl =>
    cases fl with
    | ret u => exact I.after hq
    | next => exact False.elim hq
    | brk => exact False.elim hq
    | cont => exact False.elim hq
theorem run_fn0 {pins : List (Addr × Obj)} {σ : L2.St} {H : Hp} {s : Shared} {Q : VK} {us : List Value} {vs : List V} (G : FnOk X.prog X.w X.K X.mg X.base CX k f fd ps sp) (hr : Room k X.A) (hb : Binds X.K fd ps []) (hx : Passes CX X E)
    (I : Inv X pins σ H s) (r : Vals vs us) (h : sp vs H Q E) : wpAny (model X.prog X.w) X.A (call (.ref f) us) (EP X pins σ Q) X.xe s :=
  run_fn G hr hb .nil hx I r (by rw [List.append_nil]; exact h)
/-- a op b, both of the class at C -/
def rOwn (C : Addr) (sp : Sp) (E : XK) : R2 := fun x y H Q => ∃ a b dx dy fs gs, x = .ref a ∧ y = .ref b ∧ H a = some (.ins C dx fs) ∧ H b = some (.ins C dy gs) ∧ sp [x, y] H Q E
theorem or_own {op : Operator} (G : FnOk X.prog X.w X.K X.mg X.base CX k f fd ps sp) (hr : Room k X.A) (hb : Binds X.K fd ps []) (hx : Passes CX X E) (hc : PySem.W.selfFirst X.K C = true)
    (hs : PySem.W.findIn X.K (.ref C) (PySem.dunder op.info.2) = some (some (.ref f))) (hf : PySem.W.isFn X.K (.ref f) = true) : OpR X (binaryOp op) (rOwn C sp E) := by
  intro pins s σ H x y v u Q I rx ry h
  obtain ⟨a, b, dx, dy, fs, gs, rfl, rfl, ha, hb', q⟩ := h
  cases rx
  cases ry
  obtain ⟨od, J⟩ := inst_of I ha
  obtain ⟨od', J'⟩ := inst_of I hb'
  obtain ⟨m, hF⟩ := I.fr
  refine PySem.W.binop_K hF I.ok.mod.kin J J'.type hc hs hf ?_
  exact thn (run_fn0 (vs := [.ref a, .ref b]) G hr hb hx I (.cons rfl (.cons rfl .nil)) q) fun v s' ⟨z, H', I', rz, qz⟩ => SlX.cmpback rz ⟨z, H', I', rz, qz⟩
/-- v in a, v not in a -/
def rOwnIn (neg : Bool) (C : Addr) (sp : Sp) (E : XK) : R2 := fun x y H Q => ∃ a dx fs, y = .ref a ∧ H a = some (.ins C dx fs) ∧ sp [y, x] H (fun v H' => ∃ b, v = .bl b ∧ Q (.bl (if neg then !b else b)) H') E
theorem or_ownIn (G : FnOk X.prog X.w X.K X.mg X.base CX k f fd ps sp) (hr : Room k X.A) (hb : Binds X.K fd ps []) (hx : Passes CX X E) (hs : PySem.W.findIn X.K (.ref C) "__contains__" = some (some (.ref f))) (hf : PySem.W.isFn X.K (.ref f) = true) : OpR X (compareOp .In) (rOwnIn false C sp E) := by
  intro pins s σ H x y v u Q I rx ry h
  obtain ⟨a, dx, fs, rfl, ha, q⟩ := h
  cases ry
  obtain ⟨od, J⟩ := inst_of I ha
  obtain ⟨m, hF⟩ := I.fr
  refine PySem.W.in_K hF I.ok.mod.kin J hs hf ?_
  exact thn (run_fn0 (vs := [.ref a, x]) G hr hb hx I (.cons rfl (.cons rx .nil)) q) fun v s' ⟨z, H', I', rz, b, ez, qz⟩ => by
    subst ez
    cases rz
    exact wpAny_truthy_bool ⟨.bl b, H', I', rfl, qz⟩
theorem or_ownNotIn (G : FnOk X.prog X.w X.K X.mg X.base CX k f fd ps sp) (hr : Room k X.A) (hb : Binds X.K fd ps []) (hx : Passes CX X E) (hs : PySem.W.findIn X.K (.ref C) "__contains__" = some (some (.ref f))) (hf : PySem.W.isFn X.K (.ref f) = true) : OpR X (compareOp .NotIn) (rOwnIn true C sp E) := by
  intro pins s σ H x y v u Q I rx ry h
  obtain ⟨a, dx, fs, rfl, ha, q⟩ := h
  cases ry
  obtain ⟨od, J⟩ := inst_of I ha
  obtain ⟨m, hF⟩ := I.fr
  refine PySem.W.notIn_K hF I.ok.mod.kin J hs hf ?_
  exact thn (run_fn0 (vs := [.ref a, x]) G hr hb hx I (.cons rfl (.cons rx .nil)) q) fun v s' ⟨z, H', I', rz, b, ez, qz⟩ => by
    subst ez
    cases rz
    exact wpAny_truthy_bool ⟨.bl (!b), H', I', rfl, qz⟩
def rOwnNe (C : Addr) (sp : Sp) (E : XK) : R2 := fun x y H Q => ∃ a b dx dy fs gs, x = .ref a ∧ y = .ref b ∧ H a = some (.ins C dx fs) ∧ H b = some (.ins C dy gs) ∧ sp [x, y] H (fun v H' => ∃ k, v = .bl k ∧ Q (.bl (!k)) H') E
theorem or_ownNe (G : FnOk X.prog X.w X.K X.mg X.base CX k f fd ps sp) (hr : Room (k + 1) X.A) (hb : Binds X.K fd ps []) (hx : Passes CX X.nox E) (hs : PySem.W.findIn X.K (.ref C) "__eq__" = some (some (.ref f))) (hf : PySem.W.isFn X.K (.ref f) = true)
    (hne : PySem.W.findIn X.K (.ref C) "__ne__" = some (some (.builtin "object.__ne__"))) (hob : PySem.W.mroIn X.K C (.type "object") = some true) : OpR X (compareOp .NotEq) (rOwnNe C sp E) := by
  intro pins s σ H x y v u Q I rx ry h
  obtain ⟨a, b, dx, dy, fs, gs, rfl, rfl, ha, hb', q⟩ := h
  cases rx
  cases ry
  obtain ⟨od, J⟩ := inst_of I ha
  obtain ⟨od', J'⟩ := inst_of I hb'
  obtain ⟨m, hF⟩ := I.fr
  refine PySem.W.dl_ne (tb := .ref C) (hu_of hr) hF I.ok.mod.kin J J'.type (by simp [PySem.W.notFirst]) hne hob hs hf ?_
  exact thn (run_in1 (vs := [.ref a, .ref b]) G hr hb hx I (.cons rfl (.cons rfl .nil)) q) fun v s' ⟨z, H', I', rz, k, ez, qz⟩ => by
    subst ez
    cases rz
    exact ⟨k, rfl, .bl (!k), H', I', rfl, qz⟩
end
/-! ### .. over data -/
section
variable {n : Nat} {sem : List D → M S D} {c : Str} {C : Addr}
def opOwn (c : Str) (sem : List D → M S D) : D → D → M S D := fun x y => onIns (fun c1 _ => onIns (fun c2 _ => grd (c1 = c ∧ c2 = c) (sem [x, y])) y) x
theorem od_own (hC : F.cad c = C) : OpD F (rOwn C (spD F.toCc 2 sem) (eOf F)) (opOwn c sem) := fun G σ H env s d e x y Q st rx ry p => by
  obtain ⟨c1, fs, rfl, p1⟩ := p.onIns
  obtain ⟨c2, gs, rfl, p2⟩ := p1.onIns
  obtain ⟨⟨e1, e2⟩, p3⟩ := p2.grd
  have r2 : RepL F.toCc G [D.ins c1 fs, D.ins c2 gs] [x, y] := RepL.cons rx (RepL.one ry)
  obtain ⟨a, dx, vs, rfl, ha, _, _⟩ := rx
  obtain ⟨b, dy, us, rfl, hb, _, _⟩ := ry
  exact ⟨a, b, dx, dy, vs, us, rfl, rfl, by rw [← hC, ← e1]; exact st.gd.gh _ _ ha, by rw [← hC, ← e2]; exact st.gd.gh _ _ hb, spD_of rfl st r2 p3⟩
/-- the callee's answer is a bool -/
theorem spD_bl {ds : List D} {vs : List V} {G H : Hp} {σ : L2.St} {env : Env} {s : S} {Q : VK} {g : Bool → Bool} (hn : ds.length = n) (st : StG F G σ H env s) (r : RepL F.toCc G ds vs) (p : Post F G H (((sem ds s).bind fun d s' => onBl (fun b => pure (.bl (g b))) d s')) (K1 F G H σ env Q)) :
    spD F.toCc n sem vs H (fun v H' => ∃ b, v = .bl b ∧ Q (.bl (g b)) H') (eOf F) := by
  refine spD_of hn st r (p.bind.mono fun d s1 _ hk v G' H' e st' rv => ?_)
  obtain ⟨b, rfl, p1⟩ := Post.onBl hk
  cases rv
  exact ⟨b, rfl, p1 _ G' H' e st' rfl⟩
def inOwn (neg : Bool) (c : Str) (sem : List D → M S D) : D → D → M S D := fun x y => onIns (fun c1 _ => grd (c1 = c) (do onBl (fun b => pure (.bl (if neg then !b else b))) (← sem [y, x]))) y
theorem od_ownIn (neg : Bool) (hC : F.cad c = C) : OpD F (rOwnIn neg C (spD F.toCc 2 sem) (eOf F)) (inOwn neg c sem) := fun G σ H env s d e x y Q st rx ry p => by
  obtain ⟨c1, fs, rfl, p1⟩ := p.onIns
  obtain ⟨e1, p3⟩ := p1.grd
  have r2 : RepL F.toCc G [D.ins c1 fs, d] [y, x] := RepL.cons ry (RepL.one rx)
  obtain ⟨a, dx, vs, rfl, ha, _, _⟩ := ry
  exact ⟨a, dx, vs, rfl, by rw [← hC, ← e1]; exact st.gd.gh _ _ ha, spD_bl (g := fun b => if neg then !b else b) rfl st r2 p3⟩
/-- .. and no error comes of it -/
theorem spD_blC {ds : List D} {vs : List V} {G H : Hp} {σ : L2.St} {env : Env} {s : S} {Q : VK} {g : Bool → Bool} (hn : ds.length = n) (st : StG F G σ H env s) (r : RepL F.toCc G ds vs) (p : Post F G H (((calmM (sem ds) s).bind fun d s' => onBl (fun b => pure (.bl (g b))) d s')) (K1 F G H σ env Q)) :
    spD F.toCc n sem vs H (fun v H' => ∃ b, v = .bl b ∧ Q (.bl (g b)) H') E0 := by
  obtain ⟨d, s1, hs, hk⟩ := calm_ok p.bind
  refine ⟨by rw [r.length]; exact hn, G, ds, s, st.gd, r, ?_⟩
  rw [hs]
  intro v G' H' e g' rv
  obtain ⟨b, rfl, p1⟩ := Post.onBl hk
  cases rv
  exact ⟨b, rfl, p1 _ G' H' e (st.ext' e g') rfl⟩
def neOwn (c : Str) (sem : List D → M S D) : D → D → M S D := fun x y => onIns (fun c1 _ => onIns (fun c2 _ => grd (c1 = c ∧ c2 = c) (do onBl (fun b => pure (.bl (!b))) (← calmM (sem [x, y])))) y) x
theorem od_ownNe (hC : F.cad c = C) : OpD F (rOwnNe C (spD F.toCc 2 sem) E0) (neOwn c sem) := fun G σ H env s d e x y Q st rx ry p => by
  obtain ⟨c1, fs, rfl, p1⟩ := p.onIns
  obtain ⟨c2, gs, rfl, p2⟩ := p1.onIns
  obtain ⟨⟨e1, e2⟩, p3⟩ := p2.grd
  have r2 : RepL F.toCc G [D.ins c1 fs, D.ins c2 gs] [x, y] := RepL.cons rx (RepL.one ry)
  obtain ⟨a, dx, vs, rfl, ha, _, _⟩ := rx
  obtain ⟨b, dy, us, rfl, hb, _, _⟩ := ry
  exact ⟨a, b, dx, dy, vs, us, rfl, rfl, by rw [← hC, ← e1]; exact st.gd.gh _ _ ha, by rw [← hC, ← e2]; exact st.gd.gh _ _ hb, spD_blC (g := fun b => !b) rfl st r2 p3⟩
/-- two readings, by what the operands are -/
def orD (f g : D → D → M S D) (isF : D → D → Bool) : D → D → M S D := fun x y => if isF x y then f x y else g x y
theorem od_or {r r' : R2} {f g : D → D → M S D} {isF : D → D → Bool} (h : OpD F r f) (h' : OpD F r' g) : OpD F (fun x y H Q => r x y H Q ∨ r' x y H Q) (orD f g isF) := fun G σ H env s d e x y Q st rx ry p => by
  unfold orD at p
  cases q : isF d e with
  | true => rw [q, if_pos rfl] at p; exact .inl (h G σ H env s d e x y Q st rx ry p)
  | false => rw [q, if_neg Bool.false_ne_true] at p; exact .inr (h' G σ H env s d e x y Q st rx ry p)
end
def isIns : D → Bool
  | .ins _ _ => true
  | _ => false
/-! ### isinstance -/
def tyNames : List Str := ["NoneType", "bool", "int", "str", "list", "tuple", "dict"]
def tagD : D → Option Str
  | .non => some "NoneType"
  | .bl _ => some "bool"
  | .int _ => some "int"
  | .str _ => some "str"
  | .lst _ => some "list"
  | .tup _ => some "tuple"
  | .dct _ => some "dict"
  | .ins c _ => if c ∈ tyNames then none else some c
  | .adr _ (.ins c _) => if c ∈ tyNames then none else some c
  | _ => none
/-- what isinstance asks of the class at C -/
structure InsOk (K : PySem.W.Frag) (C : Addr) : Prop where
  cl : Cls K C
  ca : PySem.W.findIn K (.ref C) "__class__" = some (some (.builtin "object.__class__"))
  cn : PySem.W.specialIn K (.builtin "object.__class__") "__get__" = some (some (.builtin "getset_descriptor.__get__"))
  ct : PySem.W.takesIn K (.builtin "object.__class__") = some true
  cm : PySem.W.mroIn K C (.type "object") = some true
def isiD (tb : Str → Option Bool) : D → M S D := fun d => match (tagD d).bind tb with
  | some b => pure (.bl b)
  | none => stk
/-- the answers of a table are the library's: t a type's name, or a class's -/
structure KitOk (K : PySem.W.Frag) (cad : Str → Addr) (an : Value → Option Bool) (tb : Str → Option Bool) : Prop where
  bt : ∀ t ∈ (["NoneType", "bool", "int", "str", "list", "tuple", "dict"] : List String), ∀ b, tb (Str.ofString t) = some b → an (.type t) = some b
  own : ∀ c b, tb c = some b → c ∉ tyNames → InsOk K (cad c) ∧ an (.ref (cad c)) = some b
theorem ty_of {an : Value → Option Bool} {tb : Str → Option Bool} {G H : Hp} {d : D} {v : V} {b : Bool} (kt : KitOk F.K F.cad an tb) (hgh : Same G H) (r : Rep F.toCc G d v) (h : (tagD d).bind tb = some b) :
    ∃ t, TyX F.K H v t ∧ an t = some b := by
  cases d with
  | non => cases r; exact ⟨_, .base .non, kt.bt _ (by simp) b h⟩
  | bl _ => cases r; exact ⟨_, .base (.bl _), kt.bt _ (by simp) b h⟩
  | int _ => cases r; exact ⟨_, .base (.int _), kt.bt _ (by simp) b h⟩
  | str _ => cases r; exact ⟨_, .base (.str _), kt.bt _ (by simp) b h⟩
  | lst _ =>
    obtain ⟨a, vs, rfl, q, _, _⟩ := r
    exact ⟨_, .base (.lst (hgh _ _ q)), kt.bt "list" (by simp) b h⟩
  | tup _ =>
    obtain ⟨a, vs, rfl, q, _, _⟩ := r
    rcases q with (q | ⟨o, q⟩) | ⟨o, its, n, q, ec, _⟩
    · exact ⟨_, .base (.tup (hgh _ _ q)), kt.bt "tuple" (by simp) b h⟩
    · exact ⟨_, .fTuple (hgh _ _ q), kt.bt "tuple" (by simp) b h⟩
    · exact ⟨_, .kTuple q ec, kt.bt "tuple" (by simp) b h⟩
  | dct _ =>
    obtain ⟨a, vs, rfl, q, _⟩ := r
    exact ⟨_, .base (.dK (hgh _ _ q)), kt.bt "dict" (by simp) b h⟩
  | ins c fs =>
    obtain ⟨a, dx, vs, rfl, q, _, _⟩ := r
    have hc : c ∉ tyNames := fun z => by
      have h : (if c ∈ tyNames then (none : Option Str) else some c).bind tb = some b := h
      rw [if_pos z] at h; cases h
    have h : (if c ∈ tyNames then (none : Option Str) else some c).bind tb = some b := h
    rw [if_neg hc] at h
    obtain ⟨i, e⟩ := kt.own c b h hc
    exact ⟨_, .base (.ins (hgh _ _ q) i.cl i.ca i.cn i.ct i.cm), e⟩
  | adr a' d' =>
    cases d' with
    | ins c fs =>
      obtain ⟨rfl, a, dx, vs, e1, q, _, _⟩ := r
      cases e1
      have hc : c ∉ tyNames := fun z => by
        have h : (if c ∈ tyNames then (none : Option Str) else some c).bind tb = some b := h
        rw [if_pos z] at h; cases h
      have h : (if c ∈ tyNames then (none : Option Str) else some c).bind tb = some b := h
      rw [if_neg hc] at h
      obtain ⟨i, e⟩ := kt.own c b h hc
      exact ⟨_, .base (.ins (hgh _ _ q) i.cl i.ca i.cn i.ct i.cm), e⟩
    | _ => cases h
  | _ => cases h
end DL
set_option Elab.async false
set_option linter.all false
set_option maxRecDepth 100000
set_option maxHeartbeats 4000000
set_option autoImplicit false
namespace DL
open PySem PySem.Spec PyProof.Rows L2
/-! ### isinstance, written -/
section
variable {S : Type} {X : Cx} {F : Fx S} {e T : Expr} {p pos : Pos} {τ : Env → M S D} {tb : Str → Option Bool}
def isi (tb : Str → Option Bool) (τ : Env → M S D) : Env → M S D := fun env => do isiD tb (← τ env)
theorem isiD_ok {G H : Hp} {d : D} {s : S} {P : D → S → Prop} (q : Post F G H (isiD tb d s) P) : ∃ b, (tagD d).bind tb = some b ∧ P (.bl b) s := by
  unfold isiD at q
  cases h : (tagD d).bind tb with
  | none => rw [h] at q; exact q.elim
  | some b => rw [h] at q; exact ⟨b, rfl, q⟩
theorem de_isi {c : V} {u : Value} (hK : X.K = F.K) (kt : KitOk F.K F.cad (fun t => PySem.W.kitOne F.K t u) tb) (hc : ClsV c u) (ha : PE X e (tE F τ)) (hT : PE X T (tC c)) (hg : Gl X "isinstance") (hm : X.mg "isinstance" = none)
    (he : starEach [e, T] X.env = (false, eval e X.env) :: starEach [T] X.env := by rfl) (he2 : starEach [T] X.env = (false, eval T X.env) :: starEach [] X.env := by rfl) (hpl : (backTo pos (starEach [T] X.env)).any (·.1) = false := by rfl) :
    PE X (.Call (.Name "isinstance" p) [e, T] [] pos) (tE F (isi tb τ)) :=
  pe_mono (pe_callB call_isi hg hm (by decide +kernel) (pa_cons ha (pa_cons hT pa_nil he2) he) (by decide) (by decide) he hpl) fun σ H Q ⟨G, env, s, st, p⟩ => by
    refine seqE st p fun d s1 v G1 H1 e1 st1 r1 p1 => ?_
    obtain ⟨b, hb, p2⟩ := isiD_ok p1
    obtain ⟨t, ht, ha⟩ := ty_of kt st1.gd.gh r1 hb
    rw [hK]
    exact ⟨v, c, t, u, b, rfl, hc, ht, ha, p2 _ G1 H1 e1 st1 rfl⟩
/-- isinstance(e, (T, U)) -/
theorem de_isi2 {U : Expr} {c c' : V} {u u' : Value} {k : Nat} {p2 : Pos} (hK : X.K = F.K) (kt : KitOk F.K F.cad (fun t => PySem.W.kitAny F.K t [u, u']) tb) (hc : ClsV c u) (hc' : ClsV c' u') (ha : PE X e (tE F τ)) (hT : PE X T (tC c)) (hU : PE X U (tC c')) (hg : Gl X "isinstance") (hm : X.mg "isinstance" = none)
    (hs1 : starEach [T, U] X.env = (false, eval T X.env) :: starEach [U] X.env := by rfl) (hs2 : starEach [U] X.env = (false, eval U X.env) :: starEach [] X.env := by rfl)
    (he : starEach [e, .Tuple [T, U] k p2] X.env = (false, eval e X.env) :: starEach [.Tuple [T, U] k p2] X.env := by rfl) (he2 : starEach [.Tuple [T, U] k p2] X.env = (false, eval (.Tuple [T, U] k p2) X.env) :: starEach [] X.env := by rfl) (hpl : (backTo pos (starEach [.Tuple [T, U] k p2] X.env)).any (·.1) = false := by rfl) :
    PE X (.Call (.Name "isinstance" p) [e, .Tuple [T, U] k p2] [] pos) (tE F (isi tb τ)) :=
  pe_mono (pe_callB call_isiT hg hm (by decide +kernel) (pa_cons ha (pa_cons (pe_tup (pa_cons hT (pa_cons hU pa_nil hs2) hs1)) pa_nil he2) he) (by decide) (by decide) he hpl) fun σ H Q ⟨G, env, s, st, p⟩ => by
    refine seqE st p fun d s1 v G1 H1 e1 st1 r1 p1 => ?_
    obtain ⟨b, hb, p2⟩ := isiD_ok p1
    refine ⟨by show 2 ≤ sizeLine; decide, fun q nq => ?_⟩
    obtain ⟨g2, e2⟩ := st1.gd.open_ nq (.tup [c, c'])
    have st2 := st1.ext' e2 g2
    obtain ⟨t, ht, ha⟩ := ty_of kt st2.gd.gh (r1.mono e2.g) hb
    rw [hK]
    exact ⟨v, q, [c, c'], t, [u, u'], b, rfl, upd_same, .cons hc (.cons hc' .nil), ht, ha, p2 _ G1 _ (e1.trans e2) st2 rfl⟩
end
/-! ### the world of the draws -/
structure DrS where
  wide : List Int
  left : Int
  turn : Int
structure RepDr (dp wl cl : Addr) (cells : List Int) (s : DrS) (H : Hp) : Prop where
  d : H dp = some (.dK [(.inr "wide", .ref wl), (.inr "left", .int s.left), (.inr "cells", .ref cl), (.inr "turn", .int s.turn)])
  w : H wl = some (.lst (s.wide.map V.int))
  c : H cl = some (.lst (cells.map V.int))
structure DrF (F : Fx DrS) (dp wl cl : Addr) (cells : List Int) : Prop where
  h0 : F.hnd 0 = .ref dp
  h1 : F.hnd 1 = .ref wl
  h2 : F.hnd 2 = .ref cl
  rep : ∀ s H, F.rep s H → RepDr dp wl cl cells s H
  put : ∀ s s' H a o o', F.rep s H → F.reg a → H a = some o' → ¬ Fixd o' → RepDr dp wl cl cells s' (upd H a o) → F.rep s' (upd H a o)
  reg : ∀ a, F.reg a ↔ a = dp ∨ a = wl ∨ a = cl
  dw : dp ≠ wl
  dc : dp ≠ cl
  wc : wl ≠ cl
/-- a code object is no dict -/
theorem codeO_ne_kso {c a : Addr} {q : Str} {xs : List (KK × V)} : LamX.CodeO c q ≠ KSO a xs := fun z => by
  injection z with z
  have e := congrFun z ⟨Array.replicate (c + 1) { cls := .none, data := .fields #[.none, .str q 0] }, {}⟩
  have hget : ∀ b o, Heap.get? ⟨Array.replicate (c + 1) { cls := .none, data := .fields #[.none, .str q 0] }, {}⟩ b = some o → o = { cls := .none, data := .fields #[.none, .str q 0] } := fun b o h => by
    unfold Heap.get? at h
    by_cases hb : b < c + 1
    · simp [Array.getElem?_replicate, hb] at h; exact h.symm
    · simp [Array.getElem?_replicate, hb] at h
  have l : ∃ (oc : Obj) (vs : Array Value) (t : Tok), Heap.get? ⟨Array.replicate (c + 1) { cls := .none, data := .fields #[.none, .str q 0] }, {}⟩ c = some oc ∧ oc.data = .fields vs ∧ vs[1]? = some (.str q t) :=
    ⟨{ cls := .none, data := .fields #[.none, .str q 0] }, #[.none, .str q 0], 0, by unfold Heap.get?; simp [Array.getElem?_replicate], rfl, rfl⟩
  rw [e] at l
  obtain ⟨_, _, _, _, o, _, _, ho, _, hd, _⟩ := l
  rw [hget _ _ ho] at hd
  cases hd
theorem tabs_keep {T : List (Addr × Str)} {H H' : Hp} (h : ∀ a o, H a = some o → Fixd o → H' a = some o) (t : LamX.Tabs T H) : LamX.Tabs T H' := fun p hp => by
  obtain ⟨ps, h1, h2, h3⟩ := t p hp
  refine ⟨ps, h _ _ h1 trivial, h2, fun pos cv hc => ?_⟩
  obtain ⟨c, e1, e2⟩ := h3 pos cv hc
  exact ⟨c, e1, h _ _ e2 fun _ _ => codeO_ne_kso⟩
/-- classes as values -/
def clsN : Nat → Str
  | 3 => "Rhythm"
  | _ => "Script"
-- what the draws and the tables are told of
/-- what the law's lambdas are: their objects, their name; the texts of instances -/
structure LamI where
  fno : Nat → Addr → Addr → HO := fun _ _ _ => .tbl #[]
  fnq : Str := ""
  rtx : D → Option Str := fun _ => none
def drawCcL (L : LamI) (K : PySem.W.Frag) (cad : Str → Addr) (dp wl cl : Addr) (cells : List Int) (T : List (Addr × Str)) : Cc DrS where
  fno := L.fno
  fnq := L.fnq
  rtx := L.rtx
  K := K
  cad := cad
  hnd := fun n => if n = 0 then .ref dp else if n = 1 then .ref wl else if n = 2 then .ref cl else .ref (cad (clsN n))
  rep := fun s H => RepDr dp wl cl cells s H ∧ LamX.Tabs T H
  reg := fun a => a = dp ∨ a = wl ∨ a = cl
  frame := fun s H H' h ⟨r, t⟩ => ⟨⟨h _ _ r.d (.inl (.inl rfl)), h _ _ r.w (.inl (.inr (.inl rfl))), h _ _ r.c (.inl (.inr (.inr rfl)))⟩, tabs_keep (fun a o e f => h a o e (.inr f)) t⟩
  there := fun s H a ⟨r, _⟩ h => by
    rcases h with h | h | h
    · subst h; exact ⟨_, r.d⟩
    · subst h; exact ⟨_, r.w⟩
    · subst h; exact ⟨_, r.c⟩
section
variable {X : Cx} {F : Fx DrS} {dp wl cl : Addr} {cells : List Int}
/-- the world is written -/
theorem DrF.write (R : DrF F dp wl cl cells) {G H : Hp} {σ : L2.St} {env : Env} {s s' : DrS} {a : Addr} {o o' : HO} (st : StG F G σ H env s) (ha : F.reg a) (e : H a = some o') (h : RepDr dp wl cl cells s' (upd H a o)) (nf : ¬ Fixd o' := by exact fun h => h) :
    Ext F.reg G H G (upd H a o) ∧ StG F G σ (upd H a o) env s' := by
  have ga := st.gd.gr a ha
  have ex : Ext F.reg G H G (upd H a o) := ⟨Same.refl _, fun b u q n _ => by rw [upd_ne (fun z : b = a => n (z ▸ ha))]; exact q, fun _ _ q => .inl q, fun b q => by
    by_cases hb : b = a
    · subst hb; rw [upd_same] at q; cases q
    · rw [upd_ne hb] at q; exact q⟩
  refine ⟨ex, st.ext' ex ⟨fun b u q => ?_, R.put _ _ _ _ _ _ st.gd.w ha e nf h, st.gd.gr, st.gd.nt⟩⟩
  rw [upd_ne (ne_of_none q ga)]
  exact st.gd.gh _ _ q
/-- draw["x"] -/
def drwGet (f : DrS → D) (τ : Env → M DrS D) : Env → M DrS D := fun env => do
  match ← τ env with
  | .hnd 0 => fun s => .ok (f s) s
  | _ => stk
def drwSet (f : Int → DrS → DrS) (τ υ : Env → M DrS D) : Env → M DrS Flw := fun env => do
  onInt (fun i => do
    match ← υ env with
    | .hnd 0 => fun s => .ok (.nx env) (f i s)
    | _ => stk) (← τ env)
theorem hnd0 {α : Type} {G H : Hp} {s : DrS} {d : D} {m : M DrS α} {P : α → DrS → Prop} (p : Post F G H ((match d with
    | .hnd 0 => m
    | _ => stk : M DrS α) s) P) : d = .hnd 0 ∧ Post F G H (m s) P := by
  cases d with
  | hnd n =>
    cases n with
    | zero => exact ⟨rfl, p⟩
    | succ n => exact p.elim
  | _ => exact p.elim
variable {o : Expr} {j : Nat} {pos p2 pos' : Pos} {τ υ : Env → M DrS D}
theorem valV_of {a : Str} {H : Hp} {s : DrS} (R : RepDr dp wl cl cells s H) {v : V} (h : valV [(.inr "wide", V.ref wl), (.inr "left", .int s.left), (.inr "cells", .ref cl), (.inr "turn", .int s.turn)] (Sum.inr a : Key) = some v) : DGet H dp (.str a) (some v) := by
  rw [← h]
  exact DGet.k (k := Sum.inr a) R.d
theorem de_drwGet {a : Str} {f : DrS → D} (R : DrF F dp wl cl cells) (hu : X.A.units + 1 < cLine) (hv : ∀ (s : DrS) (G : Hp), ∃ v, valV [(.inr "wide", V.ref wl), (.inr "left", .int s.left), (.inr "cells", .ref cl), (.inr "turn", .int s.turn)] (Sum.inr a : Key) = some v ∧ Rep F.toCc G (f s) v) (ho : PE X o (tE F τ)) :
    PE X (.Subscript o (.Constant (.str a) j p2) pos) (tE F (drwGet f τ)) := pe_mono (pe_dget hu ho pe_str (fun _ _ => rfl)) fun σ H Q ⟨G, env, s, st, p⟩ => by
  refine seqE st p fun d s1 v G1 H1 e1 st1 r1 p1 => ?_
  obtain ⟨rfl, p2⟩ := hnd0 p1
  obtain ⟨w, hw, rw_⟩ := hv s1 G1
  have r1 : v = F.hnd 0 := r1
  rw [R.h0] at r1
  subst r1
  exact ⟨dp, w, rfl, valV_of (R.rep _ _ st1.gd.w) hw, p2 _ G1 H1 e1 st1 rw_⟩
theorem ds_drwSet {a : Str} {f : Int → DrS → DrS} {value : Expr} (R : DrF F dp wl cl cells) (hu : X.A.units + 1 < cLine)
    (hput : ∀ (s : DrS) (i : Int), putK [(.inr "wide", V.ref wl), (.inr "left", .int s.left), (.inr "cells", .ref cl), (.inr "turn", .int s.turn)] (Sum.inr a : Key) (.int i) = [(.inr "wide", .ref wl), (.inr "left", .int (f i s).left), (.inr "cells", .ref cl), (.inr "turn", .int (f i s).turn)] ∧ (f i s).wide = s.wide)
    (ho : PE X o (tE F υ)) (hv : PE X value (tE F τ)) (hs : swapsWith value (some (.Subscript o (.Constant (.str a) j p2) pos')) pos.line X.env = pure false := by rfl) : PS X (.Assign [.Subscript o (.Constant (.str a) j p2) pos'] value pos) (tS F (drwSet f τ υ)) := ps_mono (ps_dput hu ho pe_str hv hs) fun D σ H ⟨G, env, s, st, p⟩ => by
  refine seqE st p fun d s1 v G1 H1 e1 st1 r1 p1 => ?_
  obtain ⟨i, rfl, p2⟩ := Post.onInt p1
  cases r1
  refine seqE st1 p2 fun d s2 v G2 H2 e2 st2 r2 p3 => ?_
  obtain ⟨rfl, p4⟩ := hnd0 p3
  have r2 : v = F.hnd 0 := r2
  rw [R.h0] at r2
  subst r2
  have W := R.rep _ _ st2.gd.w
  obtain ⟨e5, e6⟩ := hput s2 i
  have W' : RepDr dp wl cl cells (f i s2) (upd H2 dp (.dK (putK [(.inr "wide", V.ref wl), (.inr "left", .int s2.left), (.inr "cells", .ref cl), (.inr "turn", .int s2.turn)] (Sum.inr a : Key) (.int i)))) :=
    ⟨by rw [upd_same, e5], by rw [upd_ne R.dw.symm, e6]; exact W.w, by rw [upd_ne R.dc.symm]; exact W.c⟩
  obtain ⟨e7, st7⟩ := R.write st2 ((R.reg dp).mpr (.inl rfl)) W.d W'
  exact ⟨dp, _, rfl, DPut.k (k := Sum.inr a) W.d (by show 4 < sizeLine; decide), p4 σ G2 _ (e1.trans e2).g st7⟩
theorem drw_left : ∀ (s : DrS) (G : Hp), ∃ v, valV [(.inr "wide", V.ref wl), (.inr "left", .int s.left), (.inr "cells", .ref cl), (.inr "turn", .int s.turn)] (Sum.inr "left" : Key) = some v ∧ Rep F.toCc G (.int s.left) v := fun s G => ⟨.int s.left, by rfl, rfl⟩
theorem drw_turn : ∀ (s : DrS) (G : Hp), ∃ v, valV [(.inr "wide", V.ref wl), (.inr "left", .int s.left), (.inr "cells", .ref cl), (.inr "turn", .int s.turn)] (Sum.inr "turn" : Key) = some v ∧ Rep F.toCc G (.int s.turn) v := fun s G => ⟨.int s.turn, by rfl, rfl⟩
theorem drw_wide (R : DrF F dp wl cl cells) : ∀ (s : DrS) (G : Hp), ∃ v, valV [(.inr "wide", V.ref wl), (.inr "left", .int s.left), (.inr "cells", .ref cl), (.inr "turn", .int s.turn)] (Sum.inr "wide" : Key) = some v ∧ Rep F.toCc G (.hnd 1) v := fun s G => ⟨.ref wl, by rfl, R.h1.symm⟩
theorem drw_cells (R : DrF F dp wl cl cells) : ∀ (s : DrS) (G : Hp), ∃ v, valV [(.inr "wide", V.ref wl), (.inr "left", .int s.left), (.inr "cells", .ref cl), (.inr "turn", .int s.turn)] (Sum.inr "cells" : Key) = some v ∧ Rep F.toCc G (.hnd 2) v := fun s G => ⟨.ref cl, by rfl, R.h2.symm⟩
theorem put_left : ∀ (s : DrS) (i : Int), putK [(.inr "wide", V.ref wl), (.inr "left", .int s.left), (.inr "cells", .ref cl), (.inr "turn", .int s.turn)] (Sum.inr "left" : Key) (.int i) = [(.inr "wide", .ref wl), (.inr "left", .int ({ s with left := i } : DrS).left), (.inr "cells", .ref cl), (.inr "turn", .int ({ s with left := i } : DrS).turn)] ∧ ({ s with left := i } : DrS).wide = s.wide := fun s i => ⟨by rfl, rfl⟩
theorem put_turn : ∀ (s : DrS) (i : Int), putK [(.inr "wide", V.ref wl), (.inr "left", .int s.left), (.inr "cells", .ref cl), (.inr "turn", .int s.turn)] (Sum.inr "turn" : Key) (.int i) = [(.inr "wide", .ref wl), (.inr "left", .int ({ s with turn := i } : DrS).left), (.inr "cells", .ref cl), (.inr "turn", .int ({ s with turn := i } : DrS).turn)] ∧ ({ s with turn := i } : DrS).wide = s.wide := fun s i => ⟨by rfl, rfl⟩
end
end DL
set_option Elab.async false
set_option linter.all false
set_option maxRecDepth 100000
set_option maxHeartbeats 4000000
set_option autoImplicit false
namespace DL
open PySem PySem.Spec PyProof.Rows L2
section
variable {X : Cx} {F : Fx DrS} {dp wl cl : Addr} {cells : List Int} {o e : Expr} {pos apos cpos : Pos} {τ υ : Env → M DrS D}
theorem hndk {α : Type} {k : Nat} {G H : Hp} {s : DrS} {d : D} {m : M DrS α} {P : α → DrS → Prop} (p : Post F G H ((match d with
    | .hnd n => if n = k then m else stk
    | _ => stk : M DrS α) s) P) : d = .hnd k ∧ Post F G H (m s) P := by
  cases d with
  | hnd n =>
    by_cases h : n = k
    · subst h
      have p : Post F G H ((if n = n then m else stk : M DrS α) s) P := p
      rw [if_pos rfl] at p
      exact ⟨rfl, p⟩
    · have p : Post F G H ((if n = k then m else stk : M DrS α) s) P := p
      rw [if_neg h] at p
      exact p.elim
  | _ => exact p.elim
/-- draw["wide"].pop(0) -/
def popW (τ : Env → M DrS D) : Env → M DrS D := fun env => do
  match ← τ env with
  | .hnd n => if n = 1 then fun s => (match s.wide with
    | [] => .stk
    | w :: ws => .ok (.int w) { s with wide := ws }) else stk
  | _ => stk
theorem de_popW {j : Nat} {p2 : Pos} (R : DrF F dp wl cl cells) (ho : PE X o (tE F τ)) (hbase : attributeBase o "pop" X.env (eval o X.env) = eval o X.env := by rfl)
    (hfew : ((backTo cpos (starEach [.Constant (.int 0) j p2] X.env)).all (fun x => !x.1) && (backToKw cpos (keywordEach [] X.env)).all (fun x => x.1.isSome)
      && decide (([.Constant (.int 0) j p2] : List Expr).length + ([] : List Keyword).length + (if ([] : List Keyword).isEmpty then 0 else 1) < 30)) = true := by rfl)
    (hline : (apos.endLine == cpos.line) = true := by rfl) : PE X (.Call (.Attribute o "pop" apos) [.Constant (.int 0) j p2] [] cpos) (tE F (popW τ)) :=
  pe_mono (pe_bm PySem.F.plainAttrs_list PySem.F.slot_list_pop PySem.F.type_list_pop mt_popAt ho (pa_cons pe_int pa_nil) hbase hfew hline rfl rfl) fun σ H Q ⟨G, env, s, st, p⟩ => by
    refine seqE st p fun d s1 v G1 H1 e1 st1 r1 p1 => ?_
    obtain ⟨rfl, p2⟩ := hndk p1
    have r1 : v = F.hnd 1 := r1
    rw [R.h1] at r1
    subst r1
    have W := R.rep _ _ st1.gd.w
    cases hw : s1.wide with
    | nil => simp only [hw] at p2; exact p2.elim
    | cons w ws =>
      simp only [hw] at p2
      have ew : H1 wl = some (.lst (V.int w :: ws.map V.int)) := by rw [W.w, hw]; rfl
      refine ⟨.inl ⟨rfl, _, .inl (.inl ew)⟩, wl, _, 0, 0, .int w, rfl, rfl, ew, by decide, by decide, by simp [seqIndex?], rfl, ?_⟩
      have W' : RepDr dp wl cl cells { s1 with wide := ws } (upd H1 wl (.lst ((V.int w :: ws.map V.int).eraseIdx 0))) := ⟨by rw [upd_ne R.dw]; exact W.d, by rw [upd_same]; rfl, by rw [upd_ne R.wc.symm]; exact W.c⟩
      obtain ⟨e7, st7⟩ := R.write st1 ((R.reg wl).mpr (.inr (.inl rfl))) W.w W'
      exact p2 _ G1 _ (e1.trans e7) st7 rfl
/-- draw["wide"] != [] -/
def neW (τ : Env → M DrS D) : Env → M DrS Bool := fun env => do
  match ← τ env with
  | .hnd n => if n = 1 then fun s => .ok (!s.wide.isEmpty) s else stk
  | _ => stk
theorem depth_ints (ns : List Int) : PyData.depthAll (ns.map PyData.int) = 0 := by
  induction ns with
  | nil => rfl
  | cons n ns ih => simp [PyData.depthAll, PyData.depth, ih]
theorem lay_ints (ns : List Int) : PyData.canLayAll0 (ns.map PyData.int) = true := by
  induction ns with
  | nil => rfl
  | cons n ns ih => simp [PyData.canLayAll0, PyData.canLay0, ih]
theorem shaped_ints (ns : List Int) : SeqAt.shaped (.list (ns.map PyData.int)) = true := by
  simp [SeqAt.shaped, PyData.canLay0, PyData.depth, depth_ints, lay_ints]
theorem dpAll_ints {K : PySem.W.Frag} {H : Hp} : ∀ ns : List Int, DpAll K H (ns.map V.int) (ns.map PyData.int)
  | [] => .nil
  | n :: ns => .cons (.int n) (dpAll_ints ns)
theorem dt_neW {p2 : Pos} (R : DrF F dp wl cl cells) (hu : X.A.units + 64 < cLine) (ho : PE X o (tE F τ)) : PT X (.Compare o [.NotEq] [.List [] p2] pos) (tT F (neW τ)) :=
  pt_mono (pt_cmpR (op_neD hu) ho (pe_lst pa_nil) (nomark _)) fun σ H Q ⟨G, env, s, st, p⟩ => by
    refine seqE st p fun d s1 v G1 H1 e1 st1 r1 p1 => ?_
    obtain ⟨rfl, p2⟩ := hndk p1
    have r1 : v = F.hnd 1 := r1
    rw [R.h1] at r1
    subst r1
    refine ⟨Nat.zero_le _, fun q nq => ?_⟩
    obtain ⟨g2, e2⟩ := st1.gd.open_ nq (.lst [])
    have st2 := st1.ext' e2 g2
    have W := R.rep _ _ st2.gd.w
    refine ⟨.list (s1.wide.map PyData.int), .list [], .lst (.inl (.inl W.w)) (dpAll_ints _), .lst (.inl (.inl upd_same)) .nil, shaped_ints _, by decide, _, rfl, ?_⟩
    have e : (!PyData.eqv (.list (s1.wide.map PyData.int)) (.list [])) = !s1.wide.isEmpty := by cases s1.wide <;> rfl
    rw [e]
    exact p2 G1 _ (e1.trans e2) st2
/-- .. in draw["cells"] -/
def iCl (cells : List Int) (τ : Env → M DrS D) : Env → M DrS (List D) := fun env => do
  match ← τ env with
  | .hnd n => if n = 2 then pure (cells.map .int) else stk
  | _ => stk
theorem di_cells {tg : Expr} (R : DrF F dp wl cl cells) (ho : PE X o (tE F τ)) : PI X tg o (tI F (iCl cells τ)) := pi_mono (pi_list ho) fun σ H Q ⟨G, env, s, st, p⟩ => by
  refine seqE st p fun d s1 v G1 H1 e1 st1 r1 p1 => ?_
  obtain ⟨rfl, p2⟩ := hndk p1
  have r1 : v = F.hnd 2 := r1
  rw [R.h2] at r1
  subst r1
  have W := R.rep _ _ st1.gd.w
  refine ⟨cl, rfl, ⟨_, .inl (.inl W.c)⟩, p2 _ G1 H1 e1 st1 fun G' H' s' e g => ?_⟩
  have W' := R.rep _ _ g.w
  have q' : SqL X.K H' cl (cells.map V.int) := .inl (.inl W'.c)
  refine ⟨fun i d hd => ?_, fun i hi => ⟨_, q', by rw [List.length_map] at hi ⊢; exact hi⟩⟩
  rw [List.getElem?_map] at hd
  obtain ⟨n, hn, rfl⟩ := Option.map_eq_some_iff.mp hd
  have hv : (cells.map V.int)[i]? = some (.int n) := by rw [List.getElem?_map, hn]; rfl
  refine ⟨⟨_, _, q', hv⟩, fun x H2 y => ?_⟩
  obtain ⟨rfl, y⟩ := y
  have z := y _ q'
  rw [hv] at z
  cases z
  exact ⟨G', Ext.refl _ _ _, g, rfl⟩
end
/-! ### dict displays -/
section
variable {S : Type} {X : Cx} {F : Fx S}
def putKD (kvs : List (Key × D)) (k : Key) (v : D) : List (Key × D) :=
  if (kvs.any fun kv => decide (kv.1 = k)) = true then kvs.map (fun kv => if kv.1 = k then (kv.1, v) else kv) else kvs ++ [(k, v)]
def RepP (C : Cc S) (G : Hp) : List (D × D) → List (V × V) → Prop
  | [], vs => vs = []
  | (a, b) :: ds, vs => ∃ v w r, vs = (v, w) :: r ∧ Rep C G a v ∧ Rep C G b w ∧ RepP C G ds r
theorem RepP.mono {C : Cc S} {G G' : Hp} (h : Same G G') : ∀ {ds : List (D × D)} {vs : List (V × V)}, RepP C G ds vs → RepP C G' ds vs
  | [], _, r => r
  | (_, _) :: _, _, ⟨v, w, r, e, a, b, c⟩ => ⟨v, w, r, e, a.mono h, b.mono h, c.mono h⟩
theorem RepK.any {C : Cc S} {G : Hp} (k : Key) : ∀ {ds : List (Key × D)} {vs : List (Key × V)}, RepK C G ds vs → (vs.any fun kv => decide (kv.1 = k)) = ds.any fun kv => decide (kv.1 = k)
  | [], _, r => by
    have e1 : _ = [] := r
    subst e1; rfl
  | (_, _) :: _, _, ⟨v, r, e, _, b⟩ => by subst e; rw [List.any_cons, List.any_cons, b.any k]
theorem RepK.app {C : Cc S} {G : Hp} : ∀ {ds es : List (Key × D)} {vs us : List (Key × V)}, RepK C G ds vs → RepK C G es us → RepK C G (ds ++ es) (vs ++ us)
  | [], _, _, _, r, q => by
    have e1 : _ = [] := r
    subst e1; exact q
  | (_, _) :: _, _, _, _, ⟨v, r, e, a, b⟩, q => by subst e; exact ⟨v, _, rfl, a, b.app q⟩
theorem RepK.mapSet {C : Cc S} {G : Hp} {k : Key} {d : D} {w : V} (rd : Rep C G d w) : ∀ {ds : List (Key × D)} {vs : List (Key × V)}, RepK C G ds vs → RepK C G (ds.map fun kv => if kv.1 = k then (kv.1, d) else kv) (vs.map fun kv => if kv.1 = k then (kv.1, w) else kv)
  | [], _, r => by
    have e1 : _ = [] := r
    subst e1; rfl
  | (k', d') :: _, _, ⟨v, r, e, a, b⟩ => by
    subst e
    rw [List.map_cons, List.map_cons]
    by_cases h : k' = k
    · rw [if_pos h, if_pos h]; exact ⟨w, _, rfl, rd, b.mapSet rd⟩
    · rw [if_neg h, if_neg h]; exact ⟨v, _, rfl, a, b.mapSet rd⟩
theorem RepK.put {C : Cc S} {G : Hp} {k : Key} {d : D} {w : V} (rd : Rep C G d w) {ds : List (Key × D)} {vs : List (Key × V)} (r : RepK C G ds vs) : RepK C G (putKD ds k d) (putK vs k w) := by
  unfold putKD putK
  rw [r.any k]
  split
  · exact r.mapSet rd
  · exact r.app ⟨w, [], rfl, rd, rfl⟩
end
end DL
set_option Elab.async false
set_option linter.all false
set_option maxRecDepth 100000
set_option maxHeartbeats 4000000
set_option autoImplicit false
namespace DL
open PySem PySem.Spec PyProof.Rows L2
/-! ### what the readings do, one turn -/
section
variable {S : Type} {α : Type} {env : Env} {s : S} {τ υ ω : Env → M S D} {t u : Env → M S Bool} {a b : Env → M S Flw} {l : Env → M S (List D)} {d e : D}
@[simp] theorem grd_run {p : Prop} [Decidable p] {m : M S α} : grd p m s = if p then m s else .stk := by
  unfold grd; split <;> rfl
@[simp] theorem sNx_run : (sNx : Env → M S Flw) env s = .ok (.nx env) s := rfl
@[simp] theorem sBk_run : (sBk : Env → M S Flw) env s = .ok (.bk env) s := rfl
@[simp] theorem sCt_run : (sCt : Env → M S Flw) env s = .ok (.ct env) s := rfl
@[simp] theorem sNo_run : (sNo : Env → M S Flw) env s = .stk := rfl
@[simp] theorem sRetN_run : (sRetN : Env → M S Flw) env s = .ok (.rt .non) s := rfl
@[simp] theorem sRet_run : sRet τ env s = (τ env s).bind fun d s' => .ok (.rt d) s' := rfl
@[simp] theorem sDrop_run : sDrop τ env s = (τ env s).bind fun _ s' => .ok (.nx env) s' := rfl
@[simp] theorem sSeq_run : sSeq a b env s = (a env s).bind fun f s' => match f with
  | .nx e => b e s'
  | f => .ok f s' := by
  show (a env s).bind _ = _
  cases a env s with
  | ok f s' => cases f <;> rfl
  | err _ _ => rfl
  | stk => rfl
@[simp] theorem sIf_run : sIf t a b env s = (t env s).bind fun k s' => if k then a env s' else b env s' := by
  show (t env s).bind _ = _
  cases t env s with
  | ok k s' => cases k <;> rfl
  | err _ _ => rfl
  | stk => rfl
@[simp] theorem sAsg_run {γ : D → Env → M S Env} : sAsg τ γ env s = (τ env s).bind fun d s1 => (γ d env s1).bind fun e s2 => .ok (.nx e) s2 := rfl
@[simp] theorem gNm_run {i : Nat} : (gNm i : D → Env → M S Env) d env s = .ok (env.set i (some (.val d))) s := rfl
@[simp] theorem rC_run : (rC d : Env → M S D) env s = .ok d s := rfl
@[simp] theorem rNo_run : (rNo : Env → M S D) env s = .stk := rfl
theorem rVar_run {i : Nat} (h : env[i]? = some (some (.val d))) : (rVar i : Env → M S D) env s = .ok d s := by
  unfold rVar; rw [h]; rfl
@[simp] theorem rVar_zero {env : Env} : (rVar 0 : Env → M S D) (some (.val d) :: env) s = .ok d s := rfl
@[simp] theorem rVar_succ {i : Nat} {x : Option Slot} {env : Env} : (rVar (i + 1) : Env → M S D) (x :: env) s = rVar i env s := by
  unfold rVar; rw [List.getElem?_cons_succ]
@[simp] theorem bin_run {f : D → D → M S D} : bin f τ υ env s = (τ env s).bind fun x s1 => (υ env s1).bind fun y s2 => f x y s2 := rfl
@[simp] theorem chn_run {f g : D → D → M S D} : chn f g τ υ ω env s = (τ env s).bind fun x s1 => (υ env s1).bind fun y s2 => (f x y s2).bind fun k s3 => match k with
  | .bl true => (ω env s3).bind fun z s4 => (g y z s4).bind fun k s5 => (match k with
    | .bl b => .ok (.bl b) s5
    | _ => .stk)
  | .bl false => .ok (.bl false) s3
  | _ => .stk := by
  show (τ env s).bind _ = _
  congr 1; funext x s1
  show (υ env s1).bind _ = _
  congr 1; funext y s2
  show (f x y s2).bind _ = _
  congr 1; funext k s3
  cases k with
  | bl b =>
    cases b with
    | false => rfl
    | true =>
      show (ω env s3).bind _ = _
      congr 1; funext z s4
      show (g y z s4).bind _ = _
      congr 1; funext k s5
      cases k <;> rfl
  | _ => rfl
@[simp] theorem asT_run : asT τ env s = (τ env s).bind fun d s' => match d with
  | .bl b => .ok b s'
  | _ => .stk := by
  show (τ env s).bind _ = _
  congr 1; funext k s3
  cases k <;> rfl
@[simp] theorem asTr_run : asTr τ env s = (τ env s).bind fun d s' => truD d s' := rfl
@[simp] theorem andT_run : andT t u env s = (t env s).bind fun k s' => if k then u env s' else .ok false s' := by
  show (t env s).bind _ = _
  congr 1; funext k s3
  cases k <;> rfl
@[simp] theorem orT_run : orT t u env s = (t env s).bind fun k s' => if k then .ok true s' else u env s' := by
  show (t env s).bind _ = _
  congr 1; funext k s3
  cases k <;> rfl
@[simp] theorem notT_run : notT t env s = (t env s).bind fun k s' => .ok (!k) s' := rfl
@[simp] theorem iteE_run : iteE t τ υ env s = (t env s).bind fun k s' => if k then τ env s' else υ env s' := by
  show (t env s).bind _ = _
  congr 1; funext k s3
  cases k <;> rfl
@[simp] theorem andV_run : andV τ υ env s = (τ env s).bind fun x s1 => (truD x s1).bind fun k s2 => if k then υ env s2 else .ok x s2 := by
  show (τ env s).bind _ = _
  congr 1; funext x s1
  show (truD x s1).bind _ = _
  congr 1; funext k s3
  cases k <;> rfl
@[simp] theorem orV_run : orV τ υ env s = (τ env s).bind fun x s1 => (truD x s1).bind fun k s2 => if k then .ok x s2 else υ env s2 := by
  show (τ env s).bind _ = _
  congr 1; funext x s1
  show (truD x s1).bind _ = _
  congr 1; funext k s3
  cases k <;> rfl
@[simp] theorem notV_run : notV τ env s = (τ env s).bind fun x s1 => (truD x s1).bind fun k s2 => .ok (.bl (!k)) s2 := rfl
@[simp] theorem aNil_run : (aNil : Env → M S (List D)) env s = .ok [] s := rfl
@[simp] theorem aCons_run : aCons τ l env s = (τ env s).bind fun x s1 => (l env s1).bind fun xs s2 => .ok (x :: xs) s2 := rfl
@[simp] theorem lstD_run : lstD l env s = (l env s).bind fun xs s1 => if xs.length ≤ sizeLine then .ok (.lst xs) s1 else .stk := by
  show (l env s).bind _ = _
  congr 1; funext xs s1
  exact grd_run
@[simp] theorem tupD_run : tupD l env s = (l env s).bind fun xs s1 => if xs.length ≤ sizeLine then .ok (.tup xs) s1 else .stk := by
  show (l env s).bind _ = _
  congr 1; funext xs s1
  exact grd_run
@[simp] theorem cal_run {sem : List D → M S D} {dv : List D} {n : Nat} : cal sem dv n l env s = (l env s).bind fun ds s1 => if ds.length + dv.length = n then sem (ds ++ dv) s1 else .stk := by
  show (l env s).bind _ = _
  congr 1; funext xs s1
  exact grd_run
@[simp] theorem mk_run {c : Str} {sem : List D → M S (List (Str × D))} {dv : List D} {n : Nat} : mk c sem dv n l env s = (l env s).bind fun ds s1 => if ds.length + dv.length = n then (sem (ds ++ dv) s1).bind fun fs s2 => .ok (.ins c fs) s2 else .stk := by
  show (l env s).bind _ = _
  congr 1; funext xs s1
  exact grd_run
@[simp] theorem bcl_run {f : List D → M S D} : bcl f l env s = (l env s).bind fun ds s1 => f ds s1 := rfl
@[simp] theorem isi_run {tb : Str → Option Bool} : isi tb τ env s = (τ env s).bind fun d s1 => isiD tb d s1 := rfl
@[simp] theorem iSq_run : iSq τ env s = (τ env s).bind fun d s1 => match d with
  | .lst ds => .ok ds s1
  | .tup ds => .ok ds s1
  | .scr ns => .ok (ns.map .int) s1
  | _ => .stk := by
  show (τ env s).bind _ = _
  congr 1; funext k s3
  cases k <;> rfl
@[simp] theorem iR1_run : iR1 l env s = (l env s).bind fun ds s1 => match ds with
  | [.int j] => if -(2 ^ 62) ≤ j ∧ j < 2 ^ 62 then .ok (rngD 0 j) s1 else .stk
  | _ => .stk := by
  show (l env s).bind _ = _
  congr 1; funext k s3
  match k with
  | [.int j] => exact grd_run
  | [] => rfl
  | [.non] => rfl
  | [.bl _] => rfl
  | [.str _] => rfl
  | [.lst _] => rfl
  | [.tup _] => rfl
  | [.dct _] => rfl
  | [.ins _ _] => rfl
  | [.exc _ _] => rfl
  | [.hnd _] => rfl
  | [.dks _] => rfl
  | [.fn _] => rfl
  | [.adr _ _] => rfl
  | [.rps _] => rfl
  | [.scr _] => rfl
  | .int _ :: _ :: _ => rfl
  | .non :: _ :: _ => rfl
  | .bl _ :: _ :: _ => rfl
  | .str _ :: _ :: _ => rfl
  | .lst _ :: _ :: _ => rfl
  | .tup _ :: _ :: _ => rfl
  | .dct _ :: _ :: _ => rfl
  | .ins _ _ :: _ :: _ => rfl
  | .exc _ _ :: _ :: _ => rfl
  | .hnd _ :: _ :: _ => rfl
  | .dks _ :: _ :: _ => rfl
  | .fn _ :: _ :: _ => rfl
  | .adr _ _ :: _ :: _ => rfl
  | .rps _ :: _ :: _ => rfl
  | .scr _ :: _ :: _ => rfl
@[simp] theorem iR2_run : iR2 l env s = (l env s).bind fun ds s1 => a2 (fun d e => onInt (fun i => onInt (fun j => grd (-(2 ^ 62) ≤ i ∧ i < 2 ^ 62 ∧ -(2 ^ 62) ≤ j ∧ j < 2 ^ 62) (pure (rngD i j))) e) d) ds s1 := rfl
@[simp] theorem sPar_run {i j : Nat} {x y : D} {s1 : S} (h : l env s = .ok [x, y] s1) : sPar i j l env s = .ok (.nx ((env.set i (some (.val x))).set j (some (.val y)))) s1 := by
  show (l env s).bind _ = _
  rw [h]; rfl
@[simp] theorem sFor_run {γ : D → Env → M S Env} : sFor l γ a env s = (l env s).bind fun ds s1 => forL γ a ds env s1 := rfl
@[simp] theorem cmp_run {own : List Nat} {γ : D → Env → M S Env} : cmp own l γ t τ env s = (l env s).bind fun xs s1 => if xs.length ≤ sizeLine then (calmM (cmpL γ t τ (wipeE env own) xs) s1).bind fun ys s2 => .ok (.lst ys) s2 else .stk := by
  show (l env s).bind _ = _
  congr 1; funext xs s1
  exact grd_run
@[simp] theorem tYs_run : (tYs : Env → M S Bool) env s = .ok true s := rfl
theorem calm_of {m : M S α} {x : α} {s1 : S} (h : m s = .ok x s1) : calmM m s = .ok x s1 := by unfold calmM; rw [h]
@[simp] theorem onInt_run {k : Int → M S α} {i : Int} : onInt k (.int i) s = k i s := rfl
@[simp] theorem onLst_run {k : List D → M S α} {i : List D} : onLst k (.lst i) s = k i s := rfl
@[simp] theorem onTup_run {k : List D → M S α} {i : List D} : onTup k (.tup i) s = k i s := rfl
@[simp] theorem onSeq_lst {k : List D → M S α} {i : List D} : onSeq k (.lst i) s = k i s := rfl
@[simp] theorem onSeq_tup {k : List D → M S α} {i : List D} : onSeq k (.tup i) s = k i s := rfl
@[simp] theorem onIns_run {k : Str → List (Str × D) → M S α} {c : Str} {fs : List (Str × D)} : onIns k (.ins c fs) s = k c fs s := rfl
@[simp] theorem onBl_run {k : Bool → M S α} {i : Bool} : onBl k (.bl i) s = k i s := rfl
@[simp] theorem a1_run {k : D → M S α} : a1 k [d] s = k d s := rfl
@[simp] theorem a2_run {k : D → D → M S α} : a2 k [d, e] s = k d e s := rfl
@[simp] theorem a3_run {k : D → D → D → M S α} {f : D} : a3 k [d, e, f] s = k d e f s := rfl
@[simp] theorem truD_bl {b : Bool} : (truD (.bl b) : M S Bool) s = .ok b s := rfl
@[simp] theorem truD_int {i : Int} : (truD (.int i) : M S Bool) s = .ok (i != 0) s := rfl
@[simp] theorem truD_non : (truD .non : M S Bool) s = .ok false s := rfl
@[simp] theorem intOp_run {C : Int → Int → Prop} [∀ i j, Decidable (C i j)] {g : Int → Int → D} {i j : Int} : (intOp C g (.int i) (.int j) : M S D) s = if C i j then .ok (g i j) s else .stk := by
  show grd _ _ s = _; exact grd_run
@[simp] theorem intOp0_run {g : Int → Int → D} {i j : Int} : (intOp0 g (.int i) (.int j) : M S D) s = .ok (g i j) s := rfl
@[simp] theorem addD_int {i j : Int} : (addD (.int i) (.int j) : M S D) s = .ok (.int (i + j)) s := rfl
@[simp] theorem addD_lst {x y : List D} : (addD (.lst x) (.lst y) : M S D) s = if x.length + y.length ≤ sizeLine then .ok (.lst (x ++ y)) s else .stk := by
  show grd _ _ s = _; exact grd_run
@[simp] theorem eqD_int {neg : Bool} {i j : Int} : (eqD neg (.int i) (.int j) : M S D) s = .ok (.bl (if neg then !(i == j) else (i == j))) s := rfl
@[simp] theorem eqD_bl {neg : Bool} {i j : Bool} : (eqD neg (.bl i) (.bl j) : M S D) s = .ok (.bl (if neg then !(i == j) else (i == j))) s := rfl
@[simp] theorem fldC_run {c f : Str} : fldC c f τ env s = (τ env s).bind fun d s1 => onIns (fun c' fs => grd (c' = c) (match fs.lookup f with
    | some d => pure d
    | none => stk)) d s1 := rfl
@[simp] theorem prp_run {c : Str} {sem : List D → M S D} : prp c sem τ env s = (τ env s).bind fun o s1 => onIns (fun c' _ => grd (c' = c) (calmM (sem [o]))) o s1 := rfl
@[simp] theorem lenSetD_run : lenSetD τ env s = (τ env s).bind fun d s1 => lenSetI d s1 := rfl
end
/-! ### where something is claimed -/
section
variable {S : Type} {α : Type} {s : S} {d : D} {ds : List D}
theorem grd_ne {p : Prop} [Decidable p] {m : M S α} (h : grd p m s ≠ .stk) : p ∧ m s ≠ .stk := by
  rw [grd_run] at h
  by_cases q : p
  · rw [if_pos q] at h; exact ⟨q, h⟩
  · rw [if_neg q] at h; exact absurd rfl h
theorem onInt_ne {k : Int → M S α} (h : onInt k d s ≠ .stk) : ∃ i, d = .int i ∧ k i s ≠ .stk := by
  cases d <;> first | exact ⟨_, rfl, h⟩ | exact absurd rfl h
theorem onLst_ne {k : List D → M S α} (h : onLst k d s ≠ .stk) : ∃ i, d = .lst i ∧ k i s ≠ .stk := by
  cases d <;> first | exact ⟨_, rfl, h⟩ | exact absurd rfl h
theorem a1_ne {k : D → M S α} (h : a1 k ds s ≠ .stk) : ∃ d, ds = [d] ∧ k d s ≠ .stk := by
  match ds, h with
  | [d], h => exact ⟨d, rfl, h⟩
  | [], h => exact absurd rfl h
  | _ :: _ :: _, h => exact absurd rfl h
theorem a2_ne {k : D → D → M S α} (h : a2 k ds s ≠ .stk) : ∃ d e, ds = [d, e] ∧ k d e s ≠ .stk := by
  match ds, h with
  | [d, e], h => exact ⟨d, e, rfl, h⟩
  | [], h => exact absurd rfl h
  | [_], h => exact absurd rfl h
  | _ :: _ :: _ :: _, h => exact absurd rfl h
theorem a3_ne {k : D → D → D → M S α} (h : a3 k ds s ≠ .stk) : ∃ d e f, ds = [d, e, f] ∧ k d e f s ≠ .stk := by
  match ds, h with
  | [d, e, f], h => exact ⟨d, e, f, rfl, h⟩
  | [], h => exact absurd rfl h
  | [_], h => exact absurd rfl h
  | [_, _], h => exact absurd rfl h
  | _ :: _ :: _ :: _ :: _, h => exact absurd rfl h
/-- a list of ints; a list or tuple of ints -/
def onInts (k : List Int → M S α) : D → M S α := onLst fun ds => match intsD ds with
  | some ns => k ns
  | none => stk
def onIntsS (k : List Int → M S α) : D → M S α := onSeq fun ds => match intsD ds with
  | some ns => k ns
  | none => stk
theorem intsD_inv : ∀ {ds : List D} {ns : List Int}, intsD ds = some ns → ds = ns.map .int := fun {ds} => by
  induction ds with
  | nil => intro ns e; cases e; rfl
  | cons d ds ih =>
    intro ns e
    cases d with
    | int b =>
      have e : (intsD ds).map (b :: ·) = some ns := e
      obtain ⟨as, ea, rfl⟩ := Option.map_eq_some_iff.mp e
      rw [ih ea]; rfl
    | _ => cases (show (none : Option _) = some _ from e)
theorem onInts_ne {k : List Int → M S α} (h : onInts k d s ≠ .stk) : ∃ ns : List Int, d = .lst (ns.map .int) ∧ k ns s ≠ .stk := by
  obtain ⟨ds, rfl, h2⟩ := onLst_ne h
  cases e : intsD ds with
  | none => rw [e] at h2; exact absurd rfl h2
  | some ns => rw [e] at h2; exact ⟨ns, by rw [intsD_inv e], h2⟩
@[simp] theorem onInts_run {k : List Int → M S α} {ns : List Int} : onInts k (.lst (ns.map .int)) s = k ns s := by
  show (match intsD (ns.map .int) with
    | some ns => k ns
    | none => stk : M S α) s = _
  rw [intsD_of]
theorem onIntsS_ne {k : List Int → M S α} (h : onIntsS k d s ≠ .stk) : ∃ ns : List Int, (d = .lst (ns.map .int) ∨ d = .tup (ns.map .int)) ∧ k ns s ≠ .stk := by
  cases d with
  | lst ds =>
    have h : (match intsD ds with
      | some ns => k ns
      | none => stk : M S α) s ≠ .stk := h
    cases e : intsD ds with
    | none => rw [e] at h; exact absurd rfl h
    | some ns => rw [e] at h; exact ⟨ns, .inl (by rw [intsD_inv e]), h⟩
  | tup ds =>
    have h : (match intsD ds with
      | some ns => k ns
      | none => stk : M S α) s ≠ .stk := h
    cases e : intsD ds with
    | none => rw [e] at h; exact absurd rfl h
    | some ns => rw [e] at h; exact ⟨ns, .inr (by rw [intsD_inv e]), h⟩
  | _ => exact absurd rfl h
@[simp] theorem onIntsS_lst {k : List Int → M S α} {ns : List Int} : onIntsS k (.lst (ns.map .int)) s = k ns s := by
  show (match intsD (ns.map .int) with
    | some ns => k ns
    | none => stk : M S α) s = _
  rw [intsD_of]
@[simp] theorem onIntsS_tup {k : List Int → M S α} {ns : List Int} : onIntsS k (.tup (ns.map .int)) s = k ns s := by
  show (match intsD (ns.map .int) with
    | some ns => k ns
    | none => stk : M S α) s = _
  rw [intsD_of]
end
/-! ### comprehensions and loops that change nothing -/
section
variable {S : Type} {env : Env} {s : S} {t : Env → M S Bool} {e : Env → M S D} {i : Nat}
theorem cmpL_pure (p : D → Bool) (f : D → D) : ∀ {xs : List D}, (∀ x ∈ xs, t (env.set i (some (.val x))) s = .ok (p x) s) → (∀ x ∈ xs, p x = true → e (env.set i (some (.val x))) s = .ok (f x) s) →
    cmpL (gNm i) t e env xs s = .ok ((xs.filter p).map f) s
  | [], _, _ => rfl
  | x :: xs, ht, he => by
    have ih := cmpL_pure (xs := xs) p f (fun y hy => ht y (List.mem_cons_of_mem _ hy)) fun y hy => he y (List.mem_cons_of_mem _ hy)
    show (t (env.set i (some (.val x))) s).bind _ = _
    rw [ht x List.mem_cons_self]
    cases hp : p x with
    | true =>
      show (e (env.set i (some (.val x))) s).bind _ = _
      rw [he x List.mem_cons_self hp]
      show (cmpL (gNm i) t e env xs s).bind _ = _
      rw [ih, List.filter_cons_of_pos hp]
      rfl
    | false =>
      show cmpL (gNm i) t e env xs s = _
      rw [ih, List.filter_cons_of_neg (by rw [hp]; exact Bool.false_ne_true)]
theorem cmpL_map (f : D → D) {xs : List D} (he : ∀ x ∈ xs, e (env.set i (some (.val x))) s = .ok (f x) s) : cmpL (gNm i) tYs e env xs s = .ok (xs.map f) s := by
  rw [cmpL_pure (fun _ => true) f (fun _ _ => rfl) fun x hx _ => he x hx]
  rw [List.filter_eq_self.mpr (fun _ _ => rfl)]
end
end DL
set_option Elab.async false
set_option linter.all false
set_option maxRecDepth 100000
set_option maxHeartbeats 4000000
set_option autoImplicit false
/-! the mathematics of rhythms: sets of days that repeat, their least form -/
namespace Rh
open DL
abbrev has (p : Int) (rs : List Int) (d : Int) : Prop := d % p ∈ rs
/-- m is a period of A, both ways -/
def Per (A : Int → Prop) (m : Int) : Prop := ∀ d, A d ↔ A (d + m)
theorem Per.zero {A : Int → Prop} : Per A 0 := fun d => by rw [Int.add_zero]
theorem Per.add {A : Int → Prop} {a b : Int} (h : Per A a) (h' : Per A b) : Per A (a + b) := fun d => by
  rw [h d, h' (d + a), Int.add_assoc]
theorem Per.neg {A : Int → Prop} {a : Int} (h : Per A a) : Per A (-a) := fun d => by
  rw [h (d + -a)]
  rw [show d + -a + a = d by omega]
theorem Per.sub {A : Int → Prop} {a b : Int} (h : Per A a) (h' : Per A b) : Per A (a - b) := by
  rw [Int.sub_eq_add_neg]; exact h.add h'.neg
theorem Per.mulN {A : Int → Prop} {a : Int} (h : Per A a) : ∀ k : Nat, Per A (a * k)
  | 0 => by rw [Int.natCast_zero, Int.mul_zero]; exact Per.zero
  | k + 1 => by
    rw [Int.natCast_succ, Int.mul_add, Int.mul_one]
    exact (h.mulN k).add h
theorem Per.mul {A : Int → Prop} {a : Int} (h : Per A a) (k : Int) : Per A (a * k) := by
  rcases Int.le_total 0 k with hk | hk
  · have e : ((k.toNat : Nat) : Int) = k := Int.toNat_of_nonneg hk
    rw [← e]; exact h.mulN _
  · have e : ((((-k).toNat) : Nat) : Int) = -k := Int.toNat_of_nonneg (by omega)
    have := (h.mulN (-k).toNat).neg
    rw [e] at this
    rw [Int.mul_neg, Int.neg_neg] at this
    exact this
theorem Per.mod {A : Int → Prop} {a b : Int} (h : Per A a) (h' : Per A b) : Per A (a % b) := by
  rw [Int.emod_def]
  exact h.sub (h'.mul _)
theorem per_has (p : Int) (rs : List Int) : Per (has p rs) p := fun d => by
  show d % p ∈ rs ↔ (d + p) % p ∈ rs
  rw [Int.add_emod_right]
theorem Per.congr {A B : Int → Prop} {m : Int} (h : Per A m) (e : ∀ d, A d ↔ B d) : Per B m := fun d => by rw [← e, ← e]; exact h d
/-- rests of a round -/
structure Wf (n : Int) (rs : List Int) : Prop where
  pos : 1 ≤ n
  lt : ∀ r ∈ rs, 0 ≤ r ∧ r < n
  nd : rs.Nodup
def rep (n : Int) (rs : List Int) (q : Int) : Bool := rs.all fun r => decide ((r + q) % n ∈ rs)
def rngI (lo hi : Int) : List Int := (List.range (hi - lo).toNat).map fun (i : Nat) => lo + (i : Int)
theorem mem_rngI {lo hi x : Int} : x ∈ rngI lo hi ↔ lo ≤ x ∧ x < hi := by
  unfold rngI
  rw [List.mem_map]
  constructor
  · rintro ⟨i, hi', rfl⟩
    rw [List.mem_range] at hi'
    omega
  · rintro ⟨h1, h2⟩
    exact ⟨(x - lo).toNat, by rw [List.mem_range]; omega, by omega⟩
theorem rngI_sorted (lo hi : Int) : (rngI lo hi).Pairwise (· < ·) := by
  unfold rngI
  rw [List.pairwise_map]
  exact List.pairwise_lt_range.imp fun {a b} h => by omega
def parts (n : Int) (rs : List Int) : List Int := (rngI 1 (n + 1)).filter fun q => decide (n % q = 0) && rep n rs q
def leastP (n : Int) (rs : List Int) : Int := (parts n rs).headD 1
def formR (n : Int) (rs : List Int) : List Int := (srt rs).filter fun r => decide (r < leastP n rs)
theorem rep_iff {n : Int} {rs : List Int} {q : Int} : rep n rs q = true ↔ ∀ r ∈ rs, (r + q) % n ∈ rs := by
  unfold rep
  rw [List.all_eq_true]
  simp
theorem rep_self {n : Int} {rs : List Int} (w : Wf n rs) : rep n rs n = true := rep_iff.mpr fun r hr => by
  have := w.lt r hr
  rw [Int.add_emod_right, Int.emod_eq_of_lt this.1 this.2]; exact hr
theorem n_mem_parts {n : Int} {rs : List Int} (w : Wf n rs) : n ∈ parts n rs := by
  unfold parts
  rw [List.mem_filter]
  have := w.pos
  exact ⟨mem_rngI.mpr (by omega), by simp [rep_self w]⟩
theorem leastP_mem {n : Int} {rs : List Int} (w : Wf n rs) : leastP n rs ∈ parts n rs := by
  have := n_mem_parts w
  unfold leastP
  cases h : parts n rs with
  | nil => rw [h] at this; cases this
  | cons a l => simp
theorem leastP_le {n : Int} {rs : List Int} {q : Int} (h : q ∈ parts n rs) : leastP n rs ≤ q := by
  have hs : (parts n rs).Pairwise (· < ·) := (rngI_sorted _ _).filter _
  unfold leastP
  cases e : parts n rs with
  | nil => rw [e] at h; cases h
  | cons a l =>
    rw [e] at h hs
    simp only [List.headD_cons]
    rcases List.mem_cons.mp h with h | h
    · omega
    · exact Int.le_of_lt ((List.pairwise_cons.mp hs).1 q h)
theorem mem_parts {n : Int} {rs : List Int} {q : Int} : q ∈ parts n rs ↔ 1 ≤ q ∧ q ≤ n ∧ n % q = 0 ∧ ∀ r ∈ rs, (r + q) % n ∈ rs := by
  unfold parts
  rw [List.mem_filter, mem_rngI, Bool.and_eq_true, rep_iff]
  simp only [decide_eq_true_eq]
  constructor
  · rintro ⟨⟨h1, h2⟩, h3, h4⟩; exact ⟨h1, by omega, h3, h4⟩
  · rintro ⟨h1, h2, h3, h4⟩; exact ⟨⟨h1, by omega⟩, h3, h4⟩
/-- a divisor with which the rests repeat is a period -/
theorem per_of_part {n : Int} {rs : List Int} {q : Int} (h : q ∈ parts n rs) : Per (has n rs) q := by
  obtain ⟨h1, h2, h3, h4⟩ := mem_parts.mp h
  have up : ∀ d, has n rs d → has n rs (d + q) := fun d hd => by
    have := h4 _ hd
    show (d + q) % n ∈ rs
    rw [← Int.emod_add_emod]; exact this
  have ups : ∀ (k : Nat) d, has n rs d → has n rs (d + q * k) := fun k => by
    induction k with
    | zero => intro d hd; simpa using hd
    | succ k ih =>
      intro d hd
      have := up _ (ih d hd)
      rw [Int.natCast_succ, Int.mul_add, Int.mul_one, ← Int.add_assoc]; exact this
  intro d
  refine ⟨up d, fun hd => ?_⟩
  -- n = q * k, k ≥ 1: from d + q go on k - 1 times, to d + n
  obtain ⟨k, hk⟩ : ∃ k : Int, n = q * k := ⟨n / q, by have := Int.mul_ediv_add_emod n q; rw [h3] at this; omega⟩
  have hk1 : 1 ≤ k := by
    rcases Int.lt_or_le k 1 with hlt | hge
    · have : q * k ≤ q * 0 := Int.mul_le_mul_of_nonneg_left (by omega) (by omega)
      rw [Int.mul_zero] at this
      omega
    · exact hge
  have e : (((k - 1).toNat : Nat) : Int) = k - 1 := Int.toNat_of_nonneg (by omega)
  have := ups (k - 1).toNat (d + q) hd
  rw [e, Int.mul_sub, Int.mul_one, ← hk] at this
  have e2 : d + q + (n - q) = d + n := by omega
  rw [e2] at this
  exact (per_has n rs d).mpr this
theorem part_of_per {n : Int} {rs : List Int} (w : Wf n rs) {q : Int} (h1 : 1 ≤ q) (h2 : q ≤ n) (h3 : n % q = 0) (h : Per (has n rs) q) : q ∈ parts n rs :=
  mem_parts.mpr ⟨h1, h2, h3, fun r hr => by
    have e : r % n = r := Int.emod_eq_of_lt (w.lt r hr).1 (w.lt r hr).2
    exact (h r).mp (show r % n ∈ rs by rw [e]; exact hr)⟩
/-- it is the least period of all -/
theorem leastP_min {n : Int} {rs : List Int} (w : Wf n rs) : ∀ (k : Nat) (m : Int), m.toNat = k → 1 ≤ m → Per (has n rs) m → leastP n rs ≤ m := by
  intro k
  induction k using Nat.strongRecOn with
  | ind k ih =>
    intro m hm h1 h
    have hr0 : 0 ≤ n % m := Int.emod_nonneg _ (by omega)
    have hr1 : n % m < m := Int.emod_lt_of_pos _ (by omega)
    rcases Int.lt_or_eq_of_le hr0 with hr | hr
    · have := ih (n % m).toNat (by omega) (n % m) rfl (by omega) ((per_has n rs).mod h)
      omega
    · rcases Int.lt_or_le n m with hlt | hge
      · have hn := w.pos
        rw [Int.emod_eq_of_lt (by omega) hlt] at hr
        omega
      · exact leastP_le (part_of_per w h1 hge hr.symm h)
/-! ### least forms -/
structure Can (p : Int) (rs : List Int) : Prop where
  pos : 1 ≤ p
  lt : ∀ r ∈ rs, 0 ≤ r ∧ r < p
  asc : rs.Pairwise (· < ·)
  min : ∀ m, 1 ≤ m → Per (has p rs) m → p ≤ m
theorem Can.wf {p : Int} {rs : List Int} (c : Can p rs) : Wf p rs := ⟨c.pos, c.lt, c.asc.imp fun {a b} h => by omega⟩
theorem mem_srt {ns : List Int} {x : Int} : x ∈ srt ns ↔ x ∈ ns := (srt_perm ns).mem_iff
theorem srt_lt {ns : List Int} (h : ns.Nodup) : (srt ns).Pairwise (· < ·) := by
  have h1 := srt_sorted ns
  have h2 : (srt ns).Nodup := (srt_perm ns).nodup_iff.mpr h
  exact (List.Pairwise.and h1 h2).imp fun {a b} ⟨h, h'⟩ => by omega
/-- the form tells the same days -/
theorem form_has {n : Int} {rs : List Int} (w : Wf n rs) (d : Int) : has (leastP n rs) (formR n rs) d ↔ has n rs d := by
  obtain ⟨h1, h2, h3, h4⟩ := mem_parts.mp (leastP_mem w)
  have hp := per_of_part (leastP_mem w)
  have e : has n rs d ↔ has n rs (d % leastP n rs) := by
    have := (hp.mul (-(d / leastP n rs))) d
    rw [this]
    have e : d + leastP n rs * -(d / leastP n rs) = d % leastP n rs := by
      rw [Int.emod_def, Int.mul_neg]; omega
    rw [e]
  have g0 : 0 ≤ d % leastP n rs := Int.emod_nonneg _ (by omega)
  have g1 : d % leastP n rs < leastP n rs := Int.emod_lt_of_pos _ (by omega)
  rw [e]
  show d % leastP n rs ∈ formR n rs ↔ d % leastP n rs % n ∈ rs
  rw [Int.emod_eq_of_lt g0 (by omega)]
  unfold formR
  rw [List.mem_filter, mem_srt]
  simp [g1]
theorem form_can {n : Int} {rs : List Int} (w : Wf n rs) : Can (leastP n rs) (formR n rs) := by
  obtain ⟨h1, h2, h3, h4⟩ := mem_parts.mp (leastP_mem w)
  refine ⟨h1, fun r hr => ?_, (srt_lt w.nd).filter _, fun m hm h => ?_⟩
  · unfold formR at hr
    rw [List.mem_filter, mem_srt] at hr
    exact ⟨(w.lt r hr.1).1, by simpa using hr.2⟩
  · exact leastP_min w _ m rfl hm (h.congr fun d => form_has w d)
theorem sorted_ext : ∀ {xs ys : List Int}, xs.Pairwise (· < ·) → ys.Pairwise (· < ·) → (∀ x, x ∈ xs ↔ x ∈ ys) → xs = ys := fun {xs ys} h h' e => by
  have p : xs.Perm ys := (List.perm_ext_iff_of_nodup (h.imp fun {a b} h => by omega) (h'.imp fun {a b} h => by omega)).mpr e
  exact sorted_unique p (h.imp fun {a b} h => by omega) (h'.imp fun {a b} h => by omega)
/-- least forms of the same days are the same -/
theorem can_ext {p q : Int} {rs ts : List Int} (c : Can p rs) (c' : Can q ts) (e : ∀ d, has p rs d ↔ has q ts d) : p = q ∧ rs = ts := by
  have e1 : p = q := Int.le_antisymm (c.min q c'.pos ((per_has q ts).congr fun d => (e d).symm)) (c'.min p c.pos ((per_has p rs).congr e))
  subst e1
  refine ⟨rfl, sorted_ext c.asc c'.asc fun x => ?_⟩
  constructor
  · intro hx
    have := c.lt x hx
    have z := (e x).mp (show x % p ∈ rs by rw [Int.emod_eq_of_lt this.1 this.2]; exact hx)
    have z : x % p ∈ ts := z
    rw [Int.emod_eq_of_lt this.1 this.2] at z; exact z
  · intro hx
    have := c'.lt x hx
    have z := (e x).mpr (show x % p ∈ ts by rw [Int.emod_eq_of_lt this.1 this.2]; exact hx)
    have z : x % p ∈ rs := z
    rw [Int.emod_eq_of_lt this.1 this.2] at z; exact z
theorem form_le {n : Int} {rs : List Int} (w : Wf n rs) : leastP n rs ≤ n ∧ n % leastP n rs = 0 := by
  obtain ⟨h1, h2, h3, h4⟩ := mem_parts.mp (leastP_mem w)
  exact ⟨h2, h3⟩
/-- the least period divides each period -/
theorem can_dvd {p m : Int} {rs : List Int} (c : Can p rs) (h : Per (has p rs) m) : m % p = 0 := by
  have h0 : 0 ≤ m % p := Int.emod_nonneg _ (by have := c.pos; omega)
  have h1 : m % p < p := Int.emod_lt_of_pos _ (by have := c.pos; omega)
  rcases Int.lt_or_eq_of_le h0 with hr | hr
  · have := c.min (m % p) (by omega) (h.mod (per_has p rs))
    omega
  · exact hr.symm
end Rh
set_option Elab.async false
set_option linter.all false
set_option maxRecDepth 100000
set_option maxHeartbeats 4000000
set_option autoImplicit false
/-! what the defs of rhythms.py are worth, over data -/
namespace DL
open PySem PySem.Spec PyProof.Rows L2 Rh
/-- values that isinstance is asked of: the built-in ones, and objects of the classes cs -/
def okD (cs : List Str) : D → Bool
  | .non => true
  | .bl _ => true
  | .int _ => true
  | .str _ => true
  | .lst _ => true
  | .tup _ => true
  | .dct _ => true
  | .ins c _ => decide (c ∈ cs) && decide (c ∉ tyNames)
  | _ => false
def isNumD : D → Bool
  | .int _ => true
  | _ => false
def isSeqD : D → Bool
  | .lst _ => true
  | .tup _ => true
  | _ => false
def isRhD : D → Bool
  | .ins c _ => decide (c = "Rhythm")
  | _ => false
section
variable {S : Type}
def sem_is_number (cs : List Str) : List D → M S D := a1 fun d => grd (okD cs d = true) (pure (.bl (isNumD d)))
def sem_is_list (cs : List Str) : List D → M S D := a1 fun d => grd (okD cs d = true) (pure (.bl (isSeqD d)))
def numIn (lo hi : Int) : D → Bool
  | .int i => decide (lo ≤ i) && decide (i ≤ hi)
  | _ => false
def diffs (lo hi : Int) (ds : List D) : Bool := ds.all (numIn lo hi) && (match intsD ds with
  | some ns => decide ns.Nodup
  | none => false)
def diffM (cs : List Str) (lo hi : Int) : D → M S D
  | .lst ds => grd (ds.length ≤ 4000 ∧ ds.all (okD cs) = true) (pure (.bl (diffs lo hi ds)))
  | .tup ds => grd (ds.length ≤ 4000 ∧ ds.all (okD cs) = true) (pure (.bl (diffs lo hi ds)))
  | d => grd (okD cs d = true) (pure (.bl false))
def sem_are_different (cs : List Str) : List D → M S D := a3 fun d l h => onInt (fun lo => onInt (fun hi => diffM cs lo hi d) h) l
def lcmI (i j : Int) : Int := i / (Int.gcd i j : Int) * j
def sem_common : List D → M S D := a2 fun x y => onInt (fun i => onInt (fun j => grd (1 ≤ i ∧ i < 1073741824 ∧ 1 ≤ j ∧ j < 1073741824) (pure (.int (lcmI i j)))) y) x
def sem_repeats : List D → M S D := a3 fun a b c => onInt (fun n => onInts (fun rs => onInt (fun q => grd (0 < n ∧ rs.length ≤ 3000) (pure (.bl (rep n rs q)))) c) b) a
def wfB (n : Int) (rs : List Int) : Bool := decide (1 ≤ n) && (rs.all (fun r => decide (0 ≤ r) && decide (r < n)) && decide rs.Nodup)
theorem wfB_iff {n : Int} {rs : List Int} : wfB n rs = true ↔ Wf n rs := by
  unfold wfB
  simp only [Bool.and_eq_true, decide_eq_true_eq, List.all_eq_true]
  exact ⟨fun ⟨a, b, c⟩ => ⟨a, b, c⟩, fun w => ⟨w.pos, w.lt, w.nd⟩⟩
def formD (n : Int) (rs : List Int) : D := .tup [.int (leastP n rs), .tup ((formR n rs).map .int)]
def sem_least_form : List D → M S D := a2 fun a b => onInt (fun n => onInts (fun rs => grd (wfB n rs = true ∧ n ≤ 3000 ∧ rs.length ≤ 3000) (pure (formD n rs))) b) a
def sem_Rhythm___init__ (cs : List Str) : List D → M S (List (Str × D)) := a2 fun a b => onInt (fun n => onIntsS (fun rs => grd (wfB n rs = true ∧ n ≤ 3000 ∧ rs.length ≤ 3000) (pure [("own_form", formD n rs)])) b) a
/-- a rhythm -/
def rhD (p : Int) (rs : List Int) : D := .ins "Rhythm" [("own_form", .tup [.int p, .tup (rs.map .int)])]
def rhO : D → Option (Int × List Int)
  | .ins c [(f, .tup [.int p, .tup ds])] => if c = "Rhythm" ∧ f = "own_form" then (intsD ds).map fun rs => (p, rs) else none
  | _ => none
theorem rhO_rhD (p : Int) (rs : List Int) : rhO (rhD p rs) = some (p, rs) := by
  show (if ("Rhythm" : Str) = "Rhythm" ∧ ("own_form" : Str) = "own_form" then (intsD (rs.map .int)).map fun rs => (p, rs) else none) = _
  rw [if_pos ⟨rfl, rfl⟩, intsD_of]; rfl
theorem rhO_inv {d : D} {p : Int} {rs : List Int} (h : rhO d = some (p, rs)) : d = rhD p rs := by
  unfold rhO at h
  split at h
  · rename_i c f p' ds
    split at h
    · rename_i hc
      obtain ⟨ns, e, e2⟩ := Option.map_eq_some_iff.mp h
      cases e2
      rw [hc.1, hc.2, intsD_inv e]; rfl
    · cases h
  · cases h
def onRh {α : Type} (k : Int → List Int → M S α) (d : D) : M S α := match rhO d with
  | some (p, rs) => k p rs
  | none => stk
theorem onRh_ne {α : Type} {k : Int → List Int → M S α} {d : D} {s : S} (h : onRh k d s ≠ .stk) : ∃ p rs, d = rhD p rs ∧ k p rs s ≠ .stk := by
  unfold onRh at h
  cases e : rhO d with
  | none => rw [e] at h; exact absurd rfl h
  | some q =>
    obtain ⟨p, rs⟩ := q
    rw [e] at h
    exact ⟨p, rs, rhO_inv e, h⟩
@[simp] theorem onRh_run {α : Type} {k : Int → List Int → M S α} {p : Int} {rs : List Int} {s : S} : onRh k (rhD p rs) s = k p rs s := by
  unfold onRh; rw [rhO_rhD]
def sem_Rhythm_size : List D → M S D := a1 (onRh fun p _ => pure (.int p))
def inRh (p : Int) (rs : List Int) : D → Bool
  | .int d => decide (d % p ∈ rs)
  | _ => false
def sem_Rhythm___contains__ (cs : List Str) : List D → M S D := a2 fun d e => onRh (fun p rs => grd (0 < p ∧ okD cs e = true) (pure (.bl (inRh p rs e)))) d
def sem_Rhythm___eq__ (cs : List Str) : List D → M S D := a2 fun d e => onRh (fun p rs => grd (okD cs e = true) (if isRhD e = true then onRh (fun q ts => pure (.bl (decide (p = q ∧ rs = ts)))) e else pure (.bl false))) d
def mkR (n : Int) (rs : List Int) : D := rhD (leastP n rs) (formR n rs)
/-- a round and rests as they may be -/
def okR (cs : List Str) (p : Int) : Prop := 1 ≤ p ∧ p ≤ 3000 ∧ ("Rhythm" : Str) ∈ cs
instance (cs : List Str) (p : Int) : Decidable (okR cs p) := by unfold okR; exact inferInstance
def semOp (cs : List Str) (f : Bool → Bool → Bool) : List D → M S D := a2 fun d e => onRh (fun p rs => onRh (fun q ts => grd (okR cs p ∧ okR cs q ∧ lcmI p q ≤ 3000) (pure (mkR (lcmI p q) ((rngI 0 (lcmI p q)).filter fun x => f (decide (x % p ∈ rs)) (decide (x % q ∈ ts)))))) e) d
def sem_Rhythm___or__ (cs : List Str) : List D → M S D := semOp cs fun a b => a || b
def sem_Rhythm___and__ (cs : List Str) : List D → M S D := semOp cs fun a b => a && b
def sem_Rhythm___sub__ (cs : List Str) : List D → M S D := semOp cs fun a b => a && !b
end
end DL
set_option Elab.async false
set_option linter.all false
set_option maxRecDepth 100000
set_option maxHeartbeats 4000000
set_option autoImplicit false
/-! printed by tools/gen05.py: the readings of rhythms.py -/
namespace DL
open PySem PySem.Spec PyProof.Rows L2 Rh
abbrev N_is_number : List Str := ["thing"]
def rd_is_number {S : Type} (cs : List Str) : Env → M S Flw :=
  (sRet (andV (isi (tb_kit_ty_int cs) (rVar 0)) (notV (isi (tb_kit_ty_bool cs) (rVar 0)))))
abbrev N_is_list : List Str := ["thing"]
def rd_is_list {S : Type} (cs : List Str) : Env → M S Flw :=
  (sRet (isi (tb_kit_two_list_tuple cs) (rVar 0)))
abbrev N_are_different : List Str := ["thing", "least", "most", "item"]
def rd_are_different {S : Type} (cs : List Str) : Env → M S Flw :=
  (sSeq (sIf (orT (notT (asT (cal (sem_is_list cs) [] 1 (aCons (rVar 0) aNil)))) (notT (asT (bcl (allD false) (aCons (cmp [3] (iSq (rVar 0)) (gNm 3) tYs (andV (cal (sem_is_number cs) [] 1 (aCons (rVar 3) aNil)) (chn leD leD (rVar 1) (rVar 3) (rVar 2)))) aNil))))) (sRet (rC (.bl false))) sNx) (sRet (bin (eqD false) (lenSetD (bcl listD (aCons (rVar 0) aNil))) (bcl lenD (aCons (rVar 0) aNil)))))
abbrev N_repeats : List Str := ["size", "rests", "part", "rest"]
def rd_repeats {S : Type} : Env → M S Flw :=
  (sRet (bcl (allD false) (aCons (cmp [3] (iSq (rVar 1)) (gNm 3) tYs (bin (inD false) (bin modD (bin addD (rVar 3) (rVar 2)) (rVar 0)) (rVar 1))) aNil)))
abbrev N_least_form : List Str := ["size", "rests", "parts", "part", "rest"]
def rd_least_form {S : Type} : Env → M S Flw :=
  (sSeq (sAsg (cmp [3] (iR2 (aCons (rC (.int 1)) (aCons (bin addD (rVar 0) (rC (.int 1))) aNil))) (gNm 3) (andT (asT (bin (eqD false) (bin modD (rVar 0) (rVar 3)) (rC (.int 0)))) (asT (cal sem_repeats [] 3 (aCons (rVar 0) (aCons (rVar 1) (aCons (rVar 3) aNil)))))) (rVar 3)) (gNm 2)) (sRet (tupD (aCons (bin ixD (rVar 2) (rC (.int 0))) (aCons (bcl tupleD (aCons (cmp [4] (iSq (bcl sortD (aCons (rVar 1) aNil))) (gNm 4) (asT (bin ltD (rVar 4) (bin ixD (rVar 2) (rC (.int 0))))) (rVar 4)) aNil)) aNil)))))
abbrev N_Rhythm___init__ : List Str := ["self", "size", "rests"]
def rd_Rhythm___init__ {S : Type} (cs : List Str) : Env → M S Flw :=
  (sSeq (sIf (orT (notT (asT (cal (sem_is_number cs) [] 1 (aCons (rVar 1) aNil)))) (notT (asT (chn leD leD (rC (.int 1)) (rVar 1) (rC (.int 3000)))))) sNo sNx) (sSeq (sIf (notT (asT (cal (sem_are_different cs) [] 3 (aCons (rVar 2) (aCons (rC (.int 0)) (aCons (bin subD (rVar 1) (rC (.int 1))) aNil)))))) sNo sNx) (sFldO 0 "Rhythm" "own_form" (cal sem_least_form [] 2 (aCons (rVar 1) (aCons (bcl listD (aCons (rVar 2) aNil)) aNil))))))
abbrev N_Rhythm_size : List Str := ["self"]
def rd_Rhythm_size {S : Type} : Env → M S Flw :=
  (sRet (bin ixD (fldC "Rhythm" "own_form" (rVar 0)) (rC (.int 0))))
abbrev N_Rhythm___contains__ : List Str := ["self", "day"]
def rd_Rhythm___contains__ {S : Type} (cs : List Str) : Env → M S Flw :=
  (sRet (andV (cal (sem_is_number cs) [] 1 (aCons (rVar 1) aNil)) (bin (inD false) (bin modD (rVar 1) (bin ixD (fldC "Rhythm" "own_form" (rVar 0)) (rC (.int 0)))) (bin ixD (fldC "Rhythm" "own_form" (rVar 0)) (rC (.int 1))))))
abbrev N_Rhythm___eq__ : List Str := ["self", "other"]
def rd_Rhythm___eq__ {S : Type} (cs : List Str) : Env → M S Flw :=
  (sRet (andV (isi (tb_kit_own_Rhythm cs) (rVar 1)) (bin (eqD false) (fldC "Rhythm" "own_form" (rVar 0)) (fldC "Rhythm" "own_form" (rVar 1)))))
abbrev N_common : List Str := ["one", "other", "left", "right"]
noncomputable def rd_common {S : Type} : Env → M S Flw :=
  (sSeq (sPar 2 3 (aCons (rVar 0) (aCons (rVar 1) aNil))) (sSeq (sWhl (asT (bin gtD (rVar 3) (rC (.int 0)))) (sPar 2 3 (aCons (rVar 3) (aCons (bin modD (rVar 2) (rVar 3)) aNil)))) (sRet (bin mulD (bin divD (rVar 0) (rVar 2)) (rVar 1)))))
abbrev N_Rhythm___and__ : List Str := ["self", "other", "size", "day"]
def rd_Rhythm___and__ {S : Type} (cs : List Str) : Env → M S Flw :=
  (sSeq (sIf (notT (asT (isi (tb_kit_own_Rhythm cs) (rVar 1)))) sNo sNx) (sSeq (sAsg (cal sem_common [] 2 (aCons (prp "Rhythm" sem_Rhythm_size (rVar 0)) (aCons (prp "Rhythm" sem_Rhythm_size (rVar 1)) aNil))) (gNm 2)) (sRet (mk "Rhythm" (sem_Rhythm___init__ cs) [] 2 (aCons (rVar 2) (aCons (cmp [3] (iR1 (aCons (rVar 2) aNil)) (gNm 3) (andT (asT (bin (orD (inOwn false "Rhythm" (sem_Rhythm___contains__ cs)) (inD false) fun _ e => isIns e) (rVar 3) (rVar 0))) (asT (bin (orD (inOwn false "Rhythm" (sem_Rhythm___contains__ cs)) (inD false) fun _ e => isIns e) (rVar 3) (rVar 1)))) (rVar 3)) aNil))))))
end DL
set_option Elab.async false
set_option linter.all false
set_option maxRecDepth 100000
set_option maxHeartbeats 4000000
set_option autoImplicit false
/-! the readings of rhythms.py are worth what RhSem says -/
namespace DL
open PySem PySem.Spec PyProof.Rows L2 Rh
section
variable {S : Type}
theorem tbOf_t {tr fa : List Str} {t : Str} (h : t ∈ tr) : tbOf tr fa t = some true := if_pos h
theorem tbOf_f {tr fa : List Str} {t : Str} (h : t ∉ tr) (h' : t ∈ fa) : tbOf tr fa t = some false := by
  unfold tbOf; rw [if_neg h, if_pos h']
theorem isiD_of {tb : Str → Option Bool} {d : D} {t : Str} {b : Bool} {s : S} (h : tagD d = some t) (h' : tb t = some b) : (isiD tb d : M S D) s = .ok (.bl b) s := by
  unfold isiD; rw [h]; show (match tb t with | some b => pure (.bl b) | none => stk : M S D) s = _; rw [h']; rfl
theorem tag_ins {cs : List Str} {c : Str} {fs : List (Str × D)} (h : okD cs (.ins c fs) = true) : tagD (.ins c fs) = some c ∧ c ∈ cs ∧ c ∉ tyNames := by
  have h : (decide (c ∈ cs) && decide (c ∉ tyNames)) = true := h
  simp only [Bool.and_eq_true, decide_eq_true_eq] at h
  exact ⟨if_neg h.2, h.1, h.2⟩
theorem isi_int {cs : List Str} {d : D} {s : S} (h : okD cs d = true) : (isiD (tb_kit_ty_int cs) d : M S D) s = .ok (.bl (match d with | .int _ => true | .bl _ => true | _ => false)) s := by
  cases d with
  | ins c fs =>
    obtain ⟨h1, h2, h3⟩ := tag_ins h
    refine isiD_of h1 (tbOf_f (fun z => h3 ?_) (List.mem_append_right _ h2))
    revert z; simp [tyNames]; intro z; rcases z with z | z <;> simp [z]
  | exc _ _ => cases h
  | hnd _ => cases h
  | dks _ => cases h
  | fn _ => cases h
  | adr _ _ => cases h
  | rps _ => cases h
  | scr _ => cases h
  | non => exact isiD_of rfl (tbOf_f (by decide +kernel) (List.mem_append_left _ (by decide +kernel)))
  | bl _ => exact isiD_of rfl (tbOf_t (by decide +kernel))
  | int _ => exact isiD_of rfl (tbOf_t (by decide +kernel))
  | str _ => exact isiD_of rfl (tbOf_f (by decide +kernel) (List.mem_append_left _ (by decide +kernel)))
  | lst _ => exact isiD_of rfl (tbOf_f (by decide +kernel) (List.mem_append_left _ (by decide +kernel)))
  | tup _ => exact isiD_of rfl (tbOf_f (by decide +kernel) (List.mem_append_left _ (by decide +kernel)))
  | dct _ => exact isiD_of rfl (tbOf_f (by decide +kernel) (List.mem_append_left _ (by decide +kernel)))
theorem isi_bool {cs : List Str} {d : D} {s : S} (h : okD cs d = true) : (isiD (tb_kit_ty_bool cs) d : M S D) s = .ok (.bl (match d with | .bl _ => true | _ => false)) s := by
  cases d with
  | ins c fs =>
    obtain ⟨h1, h2, h3⟩ := tag_ins h
    refine isiD_of h1 (tbOf_f (fun z => h3 ?_) (List.mem_append_right _ h2))
    revert z; simp [tyNames]; intro z; simp [z]
  | exc _ _ => cases h
  | hnd _ => cases h
  | dks _ => cases h
  | fn _ => cases h
  | adr _ _ => cases h
  | rps _ => cases h
  | scr _ => cases h
  | bl _ => exact isiD_of rfl (tbOf_t (by decide +kernel))
  | non => exact isiD_of rfl (tbOf_f (by decide +kernel) (List.mem_append_left _ (by decide +kernel)))
  | int _ => exact isiD_of rfl (tbOf_f (by decide +kernel) (List.mem_append_left _ (by decide +kernel)))
  | str _ => exact isiD_of rfl (tbOf_f (by decide +kernel) (List.mem_append_left _ (by decide +kernel)))
  | lst _ => exact isiD_of rfl (tbOf_f (by decide +kernel) (List.mem_append_left _ (by decide +kernel)))
  | tup _ => exact isiD_of rfl (tbOf_f (by decide +kernel) (List.mem_append_left _ (by decide +kernel)))
  | dct _ => exact isiD_of rfl (tbOf_f (by decide +kernel) (List.mem_append_left _ (by decide +kernel)))
theorem isi_seq {cs : List Str} {d : D} {s : S} (h : okD cs d = true) : (isiD (tb_kit_two_list_tuple cs) d : M S D) s = .ok (.bl (isSeqD d)) s := by
  cases d with
  | ins c fs =>
    obtain ⟨h1, h2, h3⟩ := tag_ins h
    refine isiD_of h1 (tbOf_f (fun z => h3 ?_) (List.mem_append_right _ h2))
    revert z; simp [tyNames]; intro z; rcases z with z | z <;> simp [z]
  | exc _ _ => cases h
  | hnd _ => cases h
  | dks _ => cases h
  | fn _ => cases h
  | adr _ _ => cases h
  | rps _ => cases h
  | scr _ => cases h
  | lst _ => exact isiD_of rfl (tbOf_t (by decide +kernel))
  | tup _ => exact isiD_of rfl (tbOf_t (by decide +kernel))
  | bl _ => exact isiD_of rfl (tbOf_f (by decide +kernel) (List.mem_append_left _ (by decide +kernel)))
  | non => exact isiD_of rfl (tbOf_f (by decide +kernel) (List.mem_append_left _ (by decide +kernel)))
  | int _ => exact isiD_of rfl (tbOf_f (by decide +kernel) (List.mem_append_left _ (by decide +kernel)))
  | str _ => exact isiD_of rfl (tbOf_f (by decide +kernel) (List.mem_append_left _ (by decide +kernel)))
  | dct _ => exact isiD_of rfl (tbOf_f (by decide +kernel) (List.mem_append_left _ (by decide +kernel)))
theorem isi_rh {cs : List Str} {d : D} {s : S} (h : okD cs d = true) : (isiD (tb_kit_own_Rhythm cs) d : M S D) s = .ok (.bl (isRhD d)) s := by
  cases d with
  | ins c fs =>
    obtain ⟨h1, h2, h3⟩ := tag_ins h
    by_cases hc : c = "Rhythm"
    · have e : isRhD (.ins c fs) = true := decide_eq_true hc
      rw [e]
      exact isiD_of h1 (tbOf_t (by rw [hc]; exact List.mem_singleton_self _))
    · have e : isRhD (.ins c fs) = false := decide_eq_false hc
      rw [e]
      exact isiD_of h1 (tbOf_f (fun z => hc (List.mem_singleton.mp z)) (List.mem_append_right _ h2))
  | exc _ _ => cases h
  | hnd _ => cases h
  | dks _ => cases h
  | fn _ => cases h
  | adr _ _ => cases h
  | rps _ => cases h
  | scr _ => cases h
  | lst _ => exact isiD_of rfl (tbOf_f (by decide +kernel) (List.mem_append_left _ (by decide +kernel)))
  | tup _ => exact isiD_of rfl (tbOf_f (by decide +kernel) (List.mem_append_left _ (by decide +kernel)))
  | bl _ => exact isiD_of rfl (tbOf_f (by decide +kernel) (List.mem_append_left _ (by decide +kernel)))
  | non => exact isiD_of rfl (tbOf_f (by decide +kernel) (List.mem_append_left _ (by decide +kernel)))
  | int _ => exact isiD_of rfl (tbOf_f (by decide +kernel) (List.mem_append_left _ (by decide +kernel)))
  | str _ => exact isiD_of rfl (tbOf_f (by decide +kernel) (List.mem_append_left _ (by decide +kernel)))
  | dct _ => exact isiD_of rfl (tbOf_f (by decide +kernel) (List.mem_append_left _ (by decide +kernel)))
theorem sem_num {cs : List Str} {d : D} {s : S} (h : okD cs d = true) : (sem_is_number cs [d] : M S D) s = .ok (.bl (isNumD d)) s := by
  show grd _ _ s = _; rw [grd_run, if_pos h]; rfl
theorem sem_isl {cs : List Str} {d : D} {s : S} (h : okD cs d = true) : (sem_is_list cs [d] : M S D) s = .ok (.bl (isSeqD d)) s := by
  show grd _ _ s = _; rw [grd_run, if_pos h]; rfl
theorem rfn_is_number {cs : List Str} : Rfn (S := S) (sem_is_number cs) (runB (rd_is_number cs) N_is_number) := fun ds s h => by
  obtain ⟨d, rfl, h1⟩ := a1_ne h
  obtain ⟨hd, _⟩ := grd_ne h1
  rw [sem_num hd]
  unfold runB rd_is_number
  rw [show startE N_is_number [d] = [some (.val d)] from rfl]
  simp only [sRet_run, andV_run, isi_run, notV_run, rVar_zero, Res.bind_ok, isi_int hd, isi_bool hd, truD_bl]
  cases d <;> simp [isNumD]
theorem rfn_is_list {cs : List Str} : Rfn (S := S) (sem_is_list cs) (runB (rd_is_list cs) N_is_list) := fun ds s h => by
  obtain ⟨d, rfl, h1⟩ := a1_ne h
  obtain ⟨hd, _⟩ := grd_ne h1
  rw [sem_isl hd]
  unfold runB rd_is_list
  rw [show startE N_is_list [d] = [some (.val d)] from rfl]
  simp only [sRet_run, isi_run, rVar_zero, Res.bind_ok, isi_seq hd]
/-! ### are_different -/
theorem dedup_len : ∀ (ns acc : List Int), (ns.foldl step_dedup acc).length ≤ acc.length + ns.length ∧ ((ns.foldl step_dedup acc).length = acc.length + ns.length ↔ ns.Nodup ∧ ∀ x ∈ ns, x ∉ acc)
  | [], acc => ⟨Nat.le_refl _, by simp⟩
  | n :: ns, acc => by
    rw [List.foldl_cons]
    rw [show step_dedup acc n = if acc.any (· == n) then acc else acc ++ [n] from rfl]
    by_cases h : (acc.any (· == n)) = true
    · rw [if_pos h]
      have ih := dedup_len ns acc
      have hm : n ∈ acc := by
        obtain ⟨x, hx, e⟩ := List.any_eq_true.mp h
        rw [← eq_of_beq e]; exact hx
      refine ⟨by rw [List.length_cons]; have := ih.1; omega, fun e => ?_, fun ⟨_, z⟩ => absurd hm (z n List.mem_cons_self)⟩
      have := ih.1
      rw [List.length_cons] at e
      omega
    · rw [if_neg h]
      have ih := dedup_len ns (acc ++ [n])
      have hm : n ∉ acc := fun z => h (List.any_eq_true.mpr ⟨n, z, beq_self_eq_true n⟩)
      rw [List.length_append, List.length_singleton] at ih
      refine ⟨by rw [List.length_cons]; have := ih.1; omega, fun e => ?_, fun ⟨z1, z2⟩ => ?_⟩
      · rw [List.length_cons] at e
        obtain ⟨h1, h2⟩ := ih.2.mp (by omega)
        refine ⟨List.nodup_cons.mpr ⟨fun z => h2 n z (by simp), h1⟩, fun x hx => ?_⟩
        rcases List.mem_cons.mp hx with e | hx
        · subst e; exact hm
        · exact fun z => h2 x hx (List.mem_append_left _ z)
      · obtain ⟨z3, z4⟩ := List.nodup_cons.mp z1
        rw [List.length_cons]
        have := ih.2.mpr ⟨z4, fun x hx z => by
          rcases List.mem_append.mp z with z | z
          · exact z2 x (List.mem_cons_of_mem _ hx) z
          · rw [List.mem_singleton.mp z] at hx; exact z3 hx⟩
        omega
theorem dedup_iff (ns : List Int) : ((dedup ns).length : Int) = (ns.length : Int) ↔ ns.Nodup := by
  have := (dedup_len ns []).2
  unfold dedup
  simp only [List.length_nil, Nat.zero_add] at this
  rw [Int.natCast_inj, this]
  simp
theorem numIn_ints {lo hi : Int} : ∀ {ds : List D}, ds.all (numIn lo hi) = true → ∃ ns, intsD ds = some ns ∧ ∀ n ∈ ns, lo ≤ n ∧ n ≤ hi := fun {ds} => by
  induction ds with
  | nil => intro _; exact ⟨[], rfl, by simp⟩
  | cons d ds ih =>
    intro h
    rw [List.all_cons, Bool.and_eq_true] at h
    obtain ⟨ns, e, hn⟩ := ih h.2
    cases d with
    | int i =>
      have h1 : (decide (lo ≤ i) && decide (i ≤ hi)) = true := h.1
      simp only [Bool.and_eq_true, decide_eq_true_eq] at h1
      refine ⟨i :: ns, by show (intsD ds).map (i :: ·) = _; rw [e]; rfl, fun n hn' => ?_⟩
      rcases List.mem_cons.mp hn' with z | z
      · subst z; exact h1
      · exact hn n z
    | _ => cases (show false = true from h.1)
theorem intsD_length {ds : List D} {ns : List Int} (h : intsD ds = some ns) : ds.length = ns.length := by rw [intsD_inv h, List.length_map]
/-- the test of each item -/
theorem diff_item {cs : List Str} {th x : D} {lo hi : Int} {s : S} (h : okD cs x = true) :
    andV (cal (sem_is_number cs) [] 1 (aCons (rVar 3) aNil)) (chn leD leD (rVar 1) (rVar 3) (rVar 2)) ([some (.val th), some (.val (.int lo)), some (.val (.int hi)), some (.val x)] : Env) s = .ok (.bl (numIn lo hi x)) s := by
  simp only [andV_run, cal_run, aCons_run, aNil_run, rVar_zero, rVar_succ, Res.bind_ok]
  simp only [List.length_cons, List.length_nil, List.append_nil, sem_num h, Res.bind_ok, truD_bl, if_true, Nat.zero_add, Nat.add_zero, chn_run, rVar_zero, rVar_succ]
  cases x with
  | int i =>
    simp only [isNumD, if_true, intOp0_run, Res.bind_ok]
    by_cases hl : lo ≤ i
    · simp [numIn, hl]
    · simp [numIn, hl]
  | _ => simp [isNumD, numIn]
theorem diff_comp {cs : List Str} {th : D} {lo hi : Int} {s : S} {ds : List D} (h : ds.all (okD cs) = true) :
    cmpL (gNm 3) tYs (andV (cal (sem_is_number cs) [] 1 (aCons (rVar 3) aNil)) (chn leD leD (rVar 1) (rVar 3) (rVar 2))) ([some (.val th), some (.val (.int lo)), some (.val (.int hi)), none] : Env) ds s = .ok (ds.map fun x => .bl (numIn lo hi x)) s :=
  cmpL_map _ fun x hx => diff_item (List.all_eq_true.mp h x hx)
theorem diff_run {cs : List Str} {th : D} {lo hi : Int} {s : S} {ds : List D} (hth : th = .lst ds ∨ th = .tup ds) (hl : ds.length ≤ 4000) (h : ds.all (okD cs) = true) : runB (rd_are_different cs) N_are_different [th, .int lo, .int hi] s = .ok (.bl (diffs lo hi ds)) s := by
  have hsz : ds.length ≤ sizeLine := Nat.le_trans hl (by decide)
  unfold runB rd_are_different
  rw [show startE N_are_different [th, .int lo, .int hi] = [some (.val th), some (.val (.int lo)), some (.val (.int hi)), none] from rfl]
  have e0 : (rVar 0 : Env → M S D) [some (.val th), some (.val (.int lo)), some (.val (.int hi)), none] s = .ok th s := rVar_run rfl
  have okt : okD cs th = true := by rcases hth with rfl | rfl <;> rfl
  have ist : isSeqD th = true := by rcases hth with rfl | rfl <;> rfl
  have eit : (iSq (rVar 0) : Env → M S (List D)) [some (.val th), some (.val (.int lo)), some (.val (.int hi)), none] s = .ok ds s := by
    rw [iSq_run, e0]
    rcases hth with rfl | rfl <;> rfl
  have elst : (bcl listD (aCons (rVar 0) aNil) : Env → M S D) [some (.val th), some (.val (.int lo)), some (.val (.int hi)), none] s = .ok (.lst ds) s := by
    simp only [bcl_run, aCons_run, aNil_run, e0, Res.bind_ok]
    rcases hth with rfl | rfl <;> rfl
  have elen : (bcl lenD (aCons (rVar 0) aNil) : Env → M S D) [some (.val th), some (.val (.int lo)), some (.val (.int hi)), none] s = .ok (.int ds.length) s := by
    simp only [bcl_run, aCons_run, aNil_run, e0, Res.bind_ok]
    rcases hth with rfl | rfl <;> rfl
  have ec : wipeE ([some (.val th), some (.val (.int lo)), some (.val (.int hi)), none] : Env) [3] = [some (.val th), some (.val (.int lo)), some (.val (.int hi)), none] := rfl
  have eall : (allD false [.lst (ds.map fun x => .bl (numIn lo hi x))] : M S D) s = .ok (.bl (ds.all (numIn lo hi))) s := by
    have eb : blsD (ds.map fun x => D.bl (numIn lo hi x)) = some (ds.map (numIn lo hi)) := by
      rw [← blsD_of, List.map_map]; rfl
    show (match blsD (ds.map fun x => D.bl (numIn lo hi x)) with
      | some bs => pure (.bl (if false then bs.any id else bs.all id))
      | none => stk : M S D) s = _
    rw [eb]
    show Res.ok (D.bl ((ds.map (numIn lo hi)).all id)) s = _
    rw [List.all_map]; rfl
  simp only [sSeq_run, sIf_run, orT_run, notT_run, asT_run, cal_run, aCons_run, aNil_run, e0, Res.bind_ok, List.length_cons, List.length_nil, Nat.zero_add, Nat.add_zero, if_true, List.append_nil, sem_isl okt, ist, Bool.not_true, Bool.false_eq_true, if_false,
    bcl_run (f := allD false), cmp_run, eit, hsz, ec, calm_of (diff_comp (th := th) (lo := lo) (hi := hi) (s := s) h), eall]
  cases ha : ds.all (numIn lo hi) with
  | false => simp [diffs, ha]
  | true =>
    obtain ⟨ns, en, hn⟩ := numIn_ints ha
    have hnl : ns.length ≤ 4000 := by rw [← intsD_length en]; exact hl
    have els : (lenSetI (.lst ds) : M S D) s = .ok (.int (dedup ns).length) s := by
      show (match intsD ds with
        | some ns => grd (ns.length ≤ 4000) (pure (.int (dedup ns).length))
        | none => stk : M S D) s = _
      rw [en]
      show grd _ _ s = _
      rw [grd_run, if_pos hnl]; rfl
    simp only [Bool.not_true, Bool.false_eq_true, if_false, sNx_run, Res.bind_ok, sRet_run, bin_run, lenSetD_run, elst, elen, els, eqD_int]
    have : ((dedup ns).length : Int) = (ds.length : Int) ↔ ns.Nodup := by rw [intsD_length en]; exact dedup_iff ns
    simp only [diffs, ha, en, Bool.true_and]
    congr 2
    by_cases hnd : ns.Nodup
    · simp [this.mpr hnd, hnd]
    · simp only [hnd, decide_false]
      exact beq_eq_false_iff_ne.mpr fun z => hnd (this.mp z)
theorem rfn_are_different {cs : List Str} : Rfn (S := S) (sem_are_different cs) (runB (rd_are_different cs) N_are_different) := fun ds s h => by
  have other : ∀ (d : D) (lo hi : Int), isSeqD d = false → okD cs d = true → runB (rd_are_different cs) N_are_different [d, .int lo, .int hi] s = .ok (.bl false) s := fun d lo hi hq ok => by
    unfold runB rd_are_different
    rw [show startE N_are_different [d, .int lo, .int hi] = [some (.val d), some (.val (.int lo)), some (.val (.int hi)), none] from rfl]
    simp only [sSeq_run, sIf_run, orT_run, notT_run, asT_run, cal_run, aCons_run, aNil_run, rVar_zero, rVar_succ, Res.bind_ok, List.length_cons, List.length_nil, Nat.zero_add, Nat.add_zero, if_true, List.append_nil, sem_isl ok, hq, Bool.not_false, sRet_run, rC_run]
  obtain ⟨d, e, f, rfl, h1⟩ := a3_ne h
  obtain ⟨lo, rfl, h2⟩ := onInt_ne h1
  obtain ⟨hi, rfl, h3⟩ := onInt_ne h2
  show _ = diffM cs lo hi d s
  cases d with
  | lst ds =>
    obtain ⟨hc, _⟩ := grd_ne h3
    rw [diff_run (.inl rfl) hc.1 hc.2]
    show _ = grd _ _ s
    rw [grd_run, if_pos hc]; rfl
  | tup ds =>
    obtain ⟨hc, _⟩ := grd_ne h3
    rw [diff_run (.inr rfl) hc.1 hc.2]
    show _ = grd _ _ s
    rw [grd_run, if_pos hc]; rfl
  | non => exact other _ _ _ rfl rfl
  | bl _ => exact other _ _ _ rfl rfl
  | int _ => exact other _ _ _ rfl rfl
  | str _ => exact other _ _ _ rfl rfl
  | dct _ => exact other _ _ _ rfl rfl
  | ins c fs =>
    obtain ⟨hc, _⟩ := grd_ne h3
    rw [other _ _ _ rfl hc]
    show _ = grd _ _ s
    rw [grd_run, if_pos hc]; rfl
  | exc _ _ => exact absurd (grd_ne h3).1 Bool.false_ne_true
  | hnd _ => exact absurd (grd_ne h3).1 Bool.false_ne_true
  | dks _ => exact absurd (grd_ne h3).1 Bool.false_ne_true
  | fn _ => exact absurd (grd_ne h3).1 Bool.false_ne_true
  | adr _ _ => exact absurd (grd_ne h3).1 Bool.false_ne_true
  | rps _ => exact absurd (grd_ne h3).1 Bool.false_ne_true
  | scr _ => exact absurd (grd_ne h3).1 Bool.false_ne_true
end
end DL
set_option Elab.async false
set_option linter.all false
set_option maxRecDepth 100000
set_option maxHeartbeats 4000000
set_option autoImplicit false
namespace DL
open PySem PySem.Spec PyProof.Rows L2 Rh
section
variable {S : Type}
/-! ### common -/
theorem gcd_step {a b : Int} (ha : 0 ≤ a) : Int.gcd b (a % b) = Int.gcd a b := by
  show Nat.gcd b.natAbs (a % b).natAbs = Nat.gcd a.natAbs b.natAbs
  rw [Int.natAbs_emod_of_nonneg ha, Nat.gcd_comm a.natAbs b.natAbs, Nat.gcd_rec b.natAbs a.natAbs, Nat.gcd_comm]
theorem common_loop {i j : D} {s : S} : ∀ (k : Nat) (a b : Int), b.toNat = k → 0 ≤ a → 0 ≤ b →
    sWhl (asT (bin gtD (rVar 3) (rC (.int 0)))) (sPar 2 3 (aCons (rVar 3) (aCons (bin modD (rVar 2) (rVar 3)) aNil))) ([some (.val i), some (.val j), some (.val (.int a)), some (.val (.int b))] : Env) s
      = .ok (.nx [some (.val i), some (.val j), some (.val (.int (Int.gcd a b))), some (.val (.int 0))]) s := by
  intro k
  induction k using Nat.strongRecOn with
  | ind k ih =>
    intro a b hk ha hb
    rw [sWhl_eq]
    have ec : asT (bin gtD (rVar 3) (rC (.int 0))) ([some (.val i), some (.val j), some (.val (.int a)), some (.val (.int b))] : Env) s = .ok (decide (0 < b)) s := by
      simp only [asT_run, bin_run, rVar_succ, rVar_zero, rC_run, Res.bind_ok, intOp0_run]
    show (Res.bind _ _) = _
    rw [ec]
    by_cases h : 0 < b
    · have el : (aCons (rVar 3) (aCons (bin modD (rVar 2) (rVar 3)) aNil) : Env → M S (List D)) [some (.val i), some (.val j), some (.val (.int a)), some (.val (.int b))] s = .ok [.int b, .int (a % b)] s := by
        simp only [aCons_run, aNil_run, bin_run, rVar_succ, rVar_zero, Res.bind_ok, intOp_run, if_pos h]
      have e2 := ih (a % b).toNat (by have := Int.emod_lt_of_pos a h; have := Int.emod_nonneg a (show b ≠ 0 by omega); omega) b (a % b) rfl hb (Int.emod_nonneg a (by omega))
      rw [gcd_step ha] at e2
      simp only [Res.bind_ok, decide_eq_true h]
      show (Res.bind _ _) = _
      rw [sPar_run el]
      exact e2
    · have : b = 0 := by omega
      subst this
      simp only [Res.bind_ok]
      show Res.ok (Flw.nx _) s = _
      rw [Int.gcd_zero_right]
      have : (a.natAbs : Int) = a := by omega
      rw [this]
theorem sem_com {i j : Int} {s : S} (h : 1 ≤ i ∧ i < 1073741824 ∧ 1 ≤ j ∧ j < 1073741824) : (sem_common [.int i, .int j] : M S D) s = .ok (.int (lcmI i j)) s := by
  show grd _ _ s = _; rw [grd_run, if_pos h]; rfl
theorem rfn_common : Rfn (S := S) sem_common (runB rd_common N_common) := fun ds s h => by
  obtain ⟨x, y, rfl, h1⟩ := a2_ne h
  obtain ⟨i, rfl, h2⟩ := onInt_ne h1
  obtain ⟨j, rfl, h3⟩ := onInt_ne h2
  obtain ⟨hc, _⟩ := grd_ne h3
  rw [sem_com hc]
  unfold runB rd_common
  rw [show startE N_common [.int i, .int j] = [some (.val (.int i)), some (.val (.int j)), none, none] from rfl]
  have el : (aCons (rVar 0) (aCons (rVar 1) aNil) : Env → M S (List D)) [some (.val (.int i)), some (.val (.int j)), none, none] s = .ok [.int i, .int j] s := by
    simp only [aCons_run, aNil_run, rVar_succ, rVar_zero, Res.bind_ok]
  have hg1 : 0 < (Int.gcd i j : Int) := by
    have : 0 < Int.gcd i j := Nat.gcd_pos_of_pos_left _ (by omega)
    omega
  have hg2 : (Int.gcd i j : Int) ≤ i := Int.le_of_dvd (by omega) (Int.gcd_dvd_left i j)
  have hg3 : 0 ≤ i / (Int.gcd i j : Int) := Int.ediv_nonneg (by omega) (by omega)
  have hg4 : i / (Int.gcd i j : Int) ≤ i := Int.ediv_le_self _ (by omega)
  have hd : CDiv i (Int.gcd i j) := ⟨hg1, by omega⟩
  have hm : CMul (i / (Int.gcd i j : Int)) j := .inl ⟨by omega, by omega⟩
  have eS : ((([some (.val (.int i)), some (.val (.int j)), none, none] : Env).set 2 (some (.val (.int i)))).set 3 (some (.val (.int j)))) = [some (.val (.int i)), some (.val (.int j)), some (.val (.int i)), some (.val (.int j))] := rfl
  simp only [sSeq_run, sPar_run el, Res.bind_ok, eS, common_loop j.toNat i j rfl (by omega) (by omega), sRet_run, bin_run, rVar_succ, rVar_zero, intOp_run, if_pos hd, if_pos hm]
  rfl
/-! ### repeats, least_form -/
theorem inD_ints {x : Int} {ns : List Int} {s : S} {neg : Bool} : (inD neg (.int x) (.lst (ns.map .int)) : M S D) s = .ok (.bl (if neg then !decide (x ∈ ns) else decide (x ∈ ns))) s := by
  have hf : (ns.map D.int).all flatD = true := by
    rw [List.all_eq_true]
    intro d hd
    obtain ⟨n, _, rfl⟩ := List.mem_map.mp hd
    rfl
  have ha : ((ns.map D.int).any fun y => eqF y (.int x)) = decide (x ∈ ns) := by
    rw [List.any_map, Bool.eq_iff_iff, List.any_eq_true]
    simp only [decide_eq_true_eq]
    constructor
    · rintro ⟨n, hn, e⟩
      have e : (n == x) = true := e
      rw [← eq_of_beq e]; exact hn
    · intro hx
      exact ⟨x, hx, by show (x == x) = true; exact beq_self_eq_true x⟩
  show grd _ _ s = _
  rw [grd_run, if_pos ⟨rfl, hf⟩, ha]; rfl
theorem inD_intsT {x : Int} {ns : List Int} {s : S} {neg : Bool} : (inD neg (.int x) (.tup (ns.map .int)) : M S D) s = .ok (.bl (if neg then !decide (x ∈ ns) else decide (x ∈ ns))) s := inD_ints
theorem allD_map {α : Type} {s : S} (f : α → Bool) (xs : List α) : (allD false [.lst (xs.map fun x => .bl (f x))] : M S D) s = .ok (.bl (xs.all f)) s := by
  have eb : blsD (xs.map fun x => D.bl (f x)) = some (xs.map f) := by
    rw [← blsD_of, List.map_map]; rfl
  show (match blsD (xs.map fun x => D.bl (f x)) with
    | some bs => pure (.bl (if false then bs.any id else bs.all id))
    | none => stk : M S D) s = _
  rw [eb]
  show Res.ok (D.bl ((xs.map f).all id)) s = _
  rw [List.all_map]; rfl
/-- a comprehension over ints -/
theorem cmpL_ints {env : Env} {s : S} {t : Env → M S Bool} {e : Env → M S D} {i : Nat} (p : Int → Bool) (f : Int → D) {ns : List Int} (ht : ∀ n ∈ ns, t (env.set i (some (.val (.int n)))) s = .ok (p n) s) (he : ∀ n ∈ ns, p n = true → e (env.set i (some (.val (.int n)))) s = .ok (f n) s) :
    cmpL (gNm i) t e env (ns.map .int) s = .ok ((ns.filter p).map f) s := by
  induction ns with
  | nil => rfl
  | cons x xs ih =>
    have ih := ih (fun y hy => ht y (List.mem_cons_of_mem _ hy)) fun y hy => he y (List.mem_cons_of_mem _ hy)
    show (t (env.set i (some (.val (.int x)))) s).bind _ = _
    rw [ht x List.mem_cons_self]
    cases hp : p x with
    | true =>
      show (e (env.set i (some (.val (.int x)))) s).bind _ = _
      rw [he x List.mem_cons_self hp]
      show (cmpL (gNm i) t e env (xs.map .int) s).bind _ = _
      rw [ih, List.filter_cons_of_pos hp]
      rfl
    | false =>
      show cmpL (gNm i) t e env (xs.map .int) s = _
      rw [ih, List.filter_cons_of_neg (by rw [hp]; exact Bool.false_ne_true)]
theorem cmpL_intsM {env : Env} {s : S} {e : Env → M S D} {i : Nat} (f : Int → D) {ns : List Int} (he : ∀ n ∈ ns, e (env.set i (some (.val (.int n)))) s = .ok (f n) s) :
    cmpL (gNm i) tYs e env (ns.map .int) s = .ok (ns.map f) s := by
  rw [cmpL_ints (fun _ => true) f (fun _ _ => rfl) fun n hn _ => he n hn, List.filter_eq_self.mpr (fun _ _ => rfl)]
theorem rngD_eq (lo hi : Int) : rngD lo hi = (rngI lo hi).map .int := by
  unfold rngD rngI
  rw [List.map_map]; rfl
theorem rngI_length (lo hi : Int) : (rngI lo hi).length = (hi - lo).toNat := by unfold rngI; rw [List.length_map, List.length_range]
theorem sz3 {n : Nat} (h : n ≤ 3000) : n ≤ sizeLine := Nat.le_trans h (by decide)
theorem sem_rep {n q : Int} {rs : List Int} {s : S} (h : 0 < n) (hl : rs.length ≤ 3000) : (sem_repeats [.int n, .lst (rs.map .int), .int q] : M S D) s = .ok (.bl (rep n rs q)) s := by
  simp only [sem_repeats, a3_run, onInt_run, onInts_run, grd_run, if_pos (And.intro h hl), pure_run]
theorem rfn_repeats : Rfn (S := S) sem_repeats (runB rd_repeats N_repeats) := fun ds s h => by
  obtain ⟨x, y, z, rfl, h1⟩ := a3_ne h
  obtain ⟨n, rfl, h2⟩ := onInt_ne h1
  obtain ⟨rs, rfl, h3⟩ := onInts_ne h2
  obtain ⟨q, rfl, h4⟩ := onInt_ne h3
  obtain ⟨⟨hc, hl⟩, h5⟩ := grd_ne h4
  rw [sem_rep hc hl]
  unfold runB rd_repeats
  rw [show startE N_repeats [.int n, .lst (rs.map .int), .int q] = [some (.val (.int n)), some (.val (.lst (rs.map .int))), some (.val (.int q)), none] from rfl]
  have ew : wipeE ([some (.val (.int n)), some (.val (.lst (rs.map .int))), some (.val (.int q)), none] : Env) [3] = [some (.val (.int n)), some (.val (.lst (rs.map .int))), some (.val (.int q)), none] := rfl
  have ec := cmpL_intsM (S := S) (s := s) (env := [some (.val (.int n)), some (.val (.lst (rs.map .int))), some (.val (.int q)), none]) (i := 3) (e := bin (inD false) (bin modD (bin addD (rVar 3) (rVar 2)) (rVar 0)) (rVar 1)) (fun r => .bl (decide ((r + q) % n ∈ rs))) (ns := rs) (fun r hr => by
    simp only [List.set_cons_succ, List.set_cons_zero, bin_run, rVar_succ, rVar_zero, Res.bind_ok, addD_int, intOp_run, if_pos hc, inD_ints]; rfl)
  simp only [sRet_run, bcl_run, aCons_run, aNil_run, cmp_run, iSq_run, rVar_succ, rVar_zero, Res.bind_ok, List.length_map, sz3 hl, if_true, ew, calm_of ec, allD_map]
  rfl
theorem sem_lf {n : Int} {rs : List Int} {s : S} (h : wfB n rs = true ∧ n ≤ 3000 ∧ rs.length ≤ 3000) : (sem_least_form [.int n, .lst (rs.map .int)] : M S D) s = .ok (formD n rs) s := by
  simp only [sem_least_form, a2_run, onInt_run, onInts_run, grd_run, if_pos h, pure_run]
theorem atI_zero {α : Type} {x : α} {xs : List α} : atI (x :: xs) 0 = some x := by simp [atI, ixN]
theorem atI_one {α : Type} {x y : α} {xs : List α} : atI (x :: y :: xs) 1 = some y := by
  unfold atI ixN
  rw [if_pos (by decide), if_pos (by simp only [List.length_cons]; omega)]
  rfl
theorem ixD_lst0 {x : D} {xs : List D} {s : S} : (ixD (.lst (x :: xs)) (.int 0) : M S D) s = .ok x s := by
  show (match atI (x :: xs) 0 with | some x => pure x | none => stk : M S D) s = _
  rw [atI_zero]; rfl
theorem ixD_tup0 {x : D} {xs : List D} {s : S} : (ixD (.tup (x :: xs)) (.int 0) : M S D) s = .ok x s := ixD_lst0
theorem ixD_tup1 {x y : D} {xs : List D} {s : S} : (ixD (.tup (x :: y :: xs)) (.int 1) : M S D) s = .ok y s := by
  show (match atI (x :: y :: xs) 1 with | some x => pure x | none => stk : M S D) s = _
  rw [atI_one]; rfl
theorem sortD_ints {ns : List Int} {s : S} : (sortD [.lst (ns.map .int)] : M S D) s = .ok (.lst ((srt ns).map .int)) s := by
  show (match intsD (ns.map .int) with
    | some bs => pure (.lst ((srt bs).map D.int))
    | none => stk : M S D) s = _
  rw [intsD_of]; rfl
theorem parts_cons {n : Int} {rs : List Int} (w : Wf n rs) : ∃ l, parts n rs = leastP n rs :: l := by
  have := leastP_mem w
  unfold leastP at this ⊢
  cases e : parts n rs with
  | nil => rw [e] at this; cases this
  | cons a l => exact ⟨l, rfl⟩
theorem rfn_least_form : Rfn (S := S) sem_least_form (runB rd_least_form N_least_form) := fun ds s h => by
  obtain ⟨x, y, rfl, h1⟩ := a2_ne h
  obtain ⟨n, rfl, h2⟩ := onInt_ne h1
  obtain ⟨rs, rfl, h3⟩ := onInts_ne h2
  obtain ⟨hc, h5⟩ := grd_ne h3
  rw [sem_lf hc]
  obtain ⟨hw, hn, hl⟩ := hc
  have w := wfB_iff.mp hw
  have hp := w.pos
  unfold runB rd_least_form
  rw [show startE N_least_form [.int n, .lst (rs.map .int)] = [some (.val (.int n)), some (.val (.lst (rs.map .int))), none, none, none] from rfl]
  have ew : wipeE ([some (.val (.int n)), some (.val (.lst (rs.map .int))), none, none, none] : Env) [3] = [some (.val (.int n)), some (.val (.lst (rs.map .int))), none, none, none] := rfl
  have ec := cmpL_ints (S := S) (s := s) (env := [some (.val (.int n)), some (.val (.lst (rs.map .int))), none, none, none]) (i := 3)
    (t := andT (asT (bin (eqD false) (bin modD (rVar 0) (rVar 3)) (rC (.int 0)))) (asT (cal sem_repeats [] 3 (aCons (rVar 0) (aCons (rVar 1) (aCons (rVar 3) aNil)))))) (e := rVar 3)
    (fun q => decide (n % q = 0) && rep n rs q) (fun q => .int q) (ns := rngI 1 (n + 1)) (fun q hq => by
      have hq := mem_rngI.mp hq
      simp only [List.set_cons_succ, List.set_cons_zero, andT_run, asT_run, bin_run, rVar_succ, rVar_zero, rC_run, Res.bind_ok, intOp_run, if_pos (show 0 < q by omega), eqD_int, cal_run, aCons_run, aNil_run, List.length_cons, List.length_nil, List.append_nil, Nat.zero_add, Nat.add_zero, if_true, sem_rep (show 0 < n by omega) hl]
      by_cases hz : n % q = 0 <;> simp [hz]) (fun q hq _ => by simp only [List.set_cons_succ, List.set_cons_zero, rVar_succ, rVar_zero])
  have hr : ((rngI 1 (n + 1)).map D.int).length ≤ sizeLine := by rw [List.length_map, rngI_length]; exact sz3 (by omega)
  obtain ⟨l, el⟩ := parts_cons w
  have ec2 : cmpL (gNm 3) (andT (asT (bin (eqD false) (bin modD (rVar 0) (rVar 3)) (rC (.int 0)))) (asT (cal sem_repeats [] 3 (aCons (rVar 0) (aCons (rVar 1) (aCons (rVar 3) aNil)))))) (rVar 3) ([some (.val (.int n)), some (.val (.lst (rs.map .int))), none, none, none] : Env) ((rngI 1 (n + 1)).map .int) s = .ok (.int (leastP n rs) :: l.map .int) s := by
    rw [ec]
    show Res.ok ((parts n rs).map D.int) s = _
    rw [el]; rfl
  have hb : -(2 ^ 62) ≤ (1 : Int) ∧ (1 : Int) < 2 ^ 62 ∧ -(2 ^ 62) ≤ n + 1 ∧ n + 1 < 2 ^ 62 := by omega
  have ew2 : wipeE ([some (.val (.int n)), some (.val (.lst (rs.map .int))), some (.val (.lst (.int (leastP n rs) :: l.map .int))), none, none] : Env) [4] = [some (.val (.int n)), some (.val (.lst (rs.map .int))), some (.val (.lst (.int (leastP n rs) :: l.map .int))), none, none] := rfl
  have ec3 := cmpL_ints (S := S) (s := s) (env := [some (.val (.int n)), some (.val (.lst (rs.map .int))), some (.val (.lst (.int (leastP n rs) :: l.map .int))), none, none]) (i := 4)
    (t := asT (bin ltD (rVar 4) (bin ixD (rVar 2) (rC (.int 0))))) (e := rVar 4) (fun r => decide (r < leastP n rs)) (fun q => .int q) (ns := srt rs) (fun q hq => by
      simp only [List.set_cons_succ, List.set_cons_zero, asT_run, bin_run, rVar_succ, rVar_zero, rC_run, Res.bind_ok, ixD_lst0, intOp0_run]) (fun q hq _ => by simp only [List.set_cons_succ, List.set_cons_zero, rVar_succ, rVar_zero])
  have hs : ((srt rs).map D.int).length ≤ sizeLine := by rw [List.length_map, (srt_perm rs).length_eq]; exact sz3 hl
  simp only [sSeq_run, sAsg_run, cmp_run, iR2_run, aCons_run, aNil_run, rC_run, bin_run, rVar_succ, rVar_zero, Res.bind_ok, addD_int, a2_run, onInt_run, grd_run, if_pos hb, pure_run, rngD_eq, if_pos hr, ew, calm_of ec2, gNm_run, List.set_cons_succ, List.set_cons_zero,
    sRet_run, tupD_run, ixD_lst0, bcl_run, iSq_run, sortD_ints, if_pos hs, ew2, calm_of ec3]
  simp only [tupleD, a1_run, onSeq_lst, pure_run, Res.bind_ok, List.length_cons, List.length_nil]
  rw [if_pos (show 0 + 1 + 1 ≤ sizeLine by decide)]
  rfl
end
end DL
set_option Elab.async false
set_option linter.all false
set_option maxRecDepth 100000
set_option maxHeartbeats 4000000
set_option autoImplicit false
namespace DL
open PySem PySem.Spec PyProof.Rows L2 Rh
section
variable {S : Type}
/-! ### a rhythm made -/
theorem diffs_wf {n : Int} {rs : List Int} (w : Wf n rs) : diffs 0 (n - 1) (rs.map .int) = true := by
  unfold diffs
  rw [intsD_of]
  have h1 : (rs.map D.int).all (numIn 0 (n - 1)) = true := by
    rw [List.all_eq_true]
    intro d hd
    obtain ⟨r, hr, rfl⟩ := List.mem_map.mp hd
    have := w.lt r hr
    show (decide (0 ≤ r) && decide (r ≤ n - 1)) = true
    simp only [Bool.and_eq_true, decide_eq_true_eq]
    omega
  rw [h1, Bool.true_and]
  exact decide_eq_true w.nd
theorem ok_ints {cs : List Str} {rs : List Int} : (rs.map D.int).all (okD cs) = true := by
  rw [List.all_eq_true]
  intro d hd
  obtain ⟨r, hr, rfl⟩ := List.mem_map.mp hd
  rfl
theorem sem_dif {cs : List Str} {th : D} {lo hi : Int} {ds : List D} {s : S} (hth : th = .lst ds ∨ th = .tup ds) (hl : ds.length ≤ 4000) (h : ds.all (okD cs) = true) : (sem_are_different cs [th, .int lo, .int hi] : M S D) s = .ok (.bl (diffs lo hi ds)) s := by
  rcases hth with rfl | rfl
  · show grd _ _ s = _; rw [grd_run, if_pos ⟨hl, h⟩]; rfl
  · show grd _ _ s = _; rw [grd_run, if_pos ⟨hl, h⟩]; rfl
@[simp] theorem sFldO_run {c f : Str} {τ : Env → M S D} {fs : List (Str × D)} {env : Env} {s : S} : sFldO 0 c f τ (some (.obj c fs) :: env) s = (τ (some (.obj c fs) :: env) s).bind fun d s1 => if fs.length < 1000 then .ok (.nx (some (.obj c (putD f d fs)) :: env)) s1 else .stk := by
  show (τ _ s).bind _ = _
  congr 1; funext d s1
  show grd _ _ s1 = _
  rw [grd_run]
  by_cases h : fs.length < 1000
  · rw [if_pos ⟨rfl, h⟩, if_pos h]; rfl
  · rw [if_neg (fun z => h z.2), if_neg h]
theorem init_run {cs : List Str} {n : Int} {rs : List Int} {th : D} {s : S} (hth : th = .lst (rs.map .int) ∨ th = .tup (rs.map .int)) (h : wfB n rs = true ∧ n ≤ 3000 ∧ rs.length ≤ 3000) :
    runI (rd_Rhythm___init__ cs) "Rhythm" N_Rhythm___init__ [.int n, th] s = .ok [("own_form", formD n rs)] s := by
  have w := wfB_iff.mp h.1
  have hp := w.pos
  have hlen : (rs.map D.int).length ≤ 4000 := by rw [List.length_map]; omega
  have els : (bcl listD (aCons (rVar 2) aNil) : Env → M S D) [some (.obj "Rhythm" []), some (.val (.int n)), some (.val th)] s = .ok (.lst (rs.map .int)) s := by
    simp only [bcl_run, aCons_run, aNil_run, rVar_succ, rVar_zero, Res.bind_ok]
    rcases hth with rfl | rfl <;> rfl
  unfold runI rd_Rhythm___init__
  rw [show startI "Rhythm" N_Rhythm___init__ [.int n, th] = [some (.obj "Rhythm" []), some (.val (.int n)), some (.val th)] from rfl]
  simp only [sSeq_run, sIf_run, orT_run, notT_run, asT_run, cal_run, aCons_run, aNil_run, rVar_succ, rVar_zero, rC_run, Res.bind_ok, List.length_cons, List.length_nil, List.append_nil, Nat.zero_add, Nat.add_zero, if_true, sem_num (show okD cs (.int n) = true from rfl), isNumD, Bool.not_true, Bool.false_eq_true, if_false,
    chn_run, intOp0_run, decide_eq_true (show (1 : Int) ≤ n from hp), decide_eq_true h.2.1, sNx_run, bin_run, sem_dif hth hlen ok_ints, diffs_wf w, sFldO_run, els, sem_lf h]
  rfl
theorem sem_ini {cs : List Str} {n : Int} {rs : List Int} {th : D} {s : S} (hth : th = .lst (rs.map .int) ∨ th = .tup (rs.map .int)) (h : wfB n rs = true ∧ n ≤ 3000 ∧ rs.length ≤ 3000) : (sem_Rhythm___init__ cs [.int n, th] : M S (List (Str × D))) s = .ok [("own_form", formD n rs)] s := by
  rcases hth with rfl | rfl
  · simp only [sem_Rhythm___init__, a2_run, onInt_run, onIntsS_lst, grd_run, if_pos h, pure_run]
  · simp only [sem_Rhythm___init__, a2_run, onInt_run, onIntsS_tup, grd_run, if_pos h, pure_run]
theorem rfn_Rhythm___init__ {cs : List Str} : RfnI (S := S) (sem_Rhythm___init__ cs) (runI (rd_Rhythm___init__ cs) "Rhythm" N_Rhythm___init__) := fun ds s h => by
  obtain ⟨x, y, rfl, h1⟩ := a2_ne h
  obtain ⟨n, rfl, h2⟩ := onInt_ne h1
  obtain ⟨rs, hth, h3⟩ := onIntsS_ne h2
  obtain ⟨hc, h5⟩ := grd_ne h3
  rw [init_run hth hc, sem_ini hth hc]
theorem formD_eq (n : Int) (rs : List Int) : D.ins "Rhythm" [("own_form", formD n rs)] = mkR n rs := rfl
/-- Rhythm(n, rests), from a list -/
theorem mk_rh {cs : List Str} {α : Env → M S (List D)} {env : Env} {s s1 : S} {n : Int} {rs : List Int} {th : D} (ha : α env s = .ok [.int n, th] s1) (hth : th = .lst (rs.map .int) ∨ th = .tup (rs.map .int)) (h : wfB n rs = true ∧ n ≤ 3000 ∧ rs.length ≤ 3000) :
    mk "Rhythm" (sem_Rhythm___init__ cs) [] 2 α env s = .ok (mkR n rs) s1 := by
  simp only [mk_run, ha, Res.bind_ok, List.length_cons, List.length_nil, List.append_nil, Nat.zero_add, Nat.add_zero, if_true, sem_ini hth h, formD_eq]
/-! ### its parts -/
theorem fldC_rh {p : Int} {rs : List Int} {τ : Env → M S D} {env : Env} {s s1 : S} (h : τ env s = .ok (rhD p rs) s1) : fldC "Rhythm" "own_form" τ env s = .ok (.tup [.int p, .tup (rs.map .int)]) s1 := by
  have e : List.lookup ("own_form" : Str) [(("own_form" : Str), D.tup [.int p, .tup (rs.map .int)])] = some (D.tup [.int p, .tup (rs.map .int)]) := by simp [List.lookup]
  rw [fldC_run, h]
  simp only [Res.bind_ok, rhD, onIns_run, grd_run, if_true]
  rw [e]; rfl
theorem own0 {p : Int} {rs : List Int} {τ : Env → M S D} {env : Env} {s s1 : S} (h : τ env s = .ok (rhD p rs) s1) : bin ixD (fldC "Rhythm" "own_form" τ) (rC (.int 0)) env s = .ok (.int p) s1 := by
  simp only [bin_run, fldC_rh h, Res.bind_ok, rC_run, ixD_tup0]
theorem own1 {p : Int} {rs : List Int} {τ : Env → M S D} {env : Env} {s s1 : S} (h : τ env s = .ok (rhD p rs) s1) : bin ixD (fldC "Rhythm" "own_form" τ) (rC (.int 1)) env s = .ok (.tup (rs.map .int)) s1 := by
  simp only [bin_run, fldC_rh h, Res.bind_ok, rC_run, ixD_tup1]
theorem rfn_Rhythm_size : Rfn (S := S) sem_Rhythm_size (runB rd_Rhythm_size N_Rhythm_size) := fun ds s h => by
  obtain ⟨x, rfl, h1⟩ := a1_ne h
  obtain ⟨p, rs, rfl, h2⟩ := onRh_ne h1
  unfold runB rd_Rhythm_size
  rw [show startE N_Rhythm_size [rhD p rs] = [some (.val (rhD p rs))] from rfl]
  simp only [sRet_run, own0 (τ := rVar 0) (env := [some (.val (rhD p rs))]) (s := s) (s1 := s) rVar_zero, Res.bind_ok, sem_Rhythm_size, a1_run, onRh_run, pure_run]
theorem sem_has {cs : List Str} {p : Int} {rs : List Int} {e : D} {s : S} (h : 0 < p ∧ okD cs e = true) : (sem_Rhythm___contains__ cs [rhD p rs, e] : M S D) s = .ok (.bl (inRh p rs e)) s := by
  simp only [sem_Rhythm___contains__, a2_run, onRh_run, grd_run, if_pos h, pure_run]
theorem rfn_Rhythm___contains__ {cs : List Str} : Rfn (S := S) (sem_Rhythm___contains__ cs) (runB (rd_Rhythm___contains__ cs) N_Rhythm___contains__) := fun ds s h => by
  obtain ⟨x, e, rfl, h1⟩ := a2_ne h
  obtain ⟨p, rs, rfl, h2⟩ := onRh_ne h1
  obtain ⟨hc, h3⟩ := grd_ne h2
  rw [sem_has hc]
  unfold runB rd_Rhythm___contains__
  rw [show startE N_Rhythm___contains__ [rhD p rs, e] = [some (.val (rhD p rs)), some (.val e)] from rfl]
  simp only [sRet_run, andV_run, cal_run, aCons_run, aNil_run, rVar_succ, rVar_zero, Res.bind_ok, List.length_cons, List.length_nil, List.append_nil, Nat.zero_add, Nat.add_zero, if_true, sem_num hc.2, truD_bl]
  cases e with
  | int d =>
    simp only [isNumD, if_true, bin_run (f := inD false), bin_run (f := modD), own0 (τ := rVar 0) (env := [some (.val (rhD p rs)), some (.val (.int d))]) (s := s) (s1 := s) rVar_zero, own1 (τ := rVar 0) (env := [some (.val (rhD p rs)), some (.val (.int d))]) (s := s) (s1 := s) rVar_zero, rVar_succ, rVar_zero, Res.bind_ok, intOp_run, if_pos hc.1, inD_intsT]
    rfl
  | _ => simp [isNumD, inRh]
/-! ### == -/
theorem pdL_ints (rs : List Int) : pdL (rs.map .int) = some (rs.map PyData.int) := by
  induction rs with
  | nil => rfl
  | cons r rs ih =>
    show (match pd (.int r), pdL (rs.map .int) with
      | some a, some b => some (a :: b)
      | _, _ => none) = _
    rw [ih]; rfl
theorem eqv_ints : ∀ (rs ts : List Int), PyData.eqvAll (rs.map PyData.int) (ts.map PyData.int) = decide (rs = ts)
  | [], [] => rfl
  | [], _ :: _ => rfl
  | _ :: _, [] => rfl
  | r :: rs, t :: ts => by
    show ((r == t) && PyData.eqvAll (rs.map PyData.int) (ts.map PyData.int)) = _
    rw [eqv_ints rs ts, Bool.eq_iff_iff]
    simp
theorem pd_form (p : Int) (rs : List Int) : pd (.tup [.int p, .tup (rs.map .int)]) = some (.tuple [.int p, .tuple (rs.map PyData.int)]) := by
  have e : pd (.tup (rs.map .int)) = some (.tuple (rs.map PyData.int)) := by
    show (pdL (rs.map .int)).map PyData.tuple = _
    rw [pdL_ints]; rfl
  show (match pd (.int p), (match pd (.tup (rs.map .int)), pdL [] with
      | some a, some b => some (a :: b)
      | _, _ => none) with
    | some a, some b => some (a :: b)
    | _, _ => none).map PyData.tuple = _
  rw [e]; rfl
theorem shaped_form (p : Int) (rs : List Int) : SeqAt.shaped (.tuple [.int p, .tuple (rs.map PyData.int)]) = true := by
  simp [SeqAt.shaped, PyData.canLay0, PyData.canLayAll0, PyData.depth, PyData.depthAll, depth_ints, lay_ints]
theorem eqD_form {p q : Int} {rs ts : List Int} {s : S} {neg : Bool} : (eqD neg (.tup [.int p, .tup (rs.map .int)]) (.tup [.int q, .tup (ts.map .int)]) : M S D) s = .ok (.bl (if neg then !decide (p = q ∧ rs = ts) else decide (p = q ∧ rs = ts))) s := by
  have e : eqP (.tup [.int p, .tup (rs.map .int)]) (.tup [.int q, .tup (ts.map .int)]) = some (decide (p = q ∧ rs = ts)) := by
    unfold eqP
    rw [pd_form, pd_form]
    show (if _ then some _ else none) = _
    rw [if_pos ⟨shaped_form p rs, shaped_form q ts⟩]
    show some ((p == q) && (PyData.eqvAll (rs.map PyData.int) (ts.map PyData.int) && true)) = _
    rw [eqv_ints, Bool.and_true]
    congr 1
    rw [Bool.eq_iff_iff]
    simp
  unfold eqD; rw [e]; rfl
theorem sem_eq {cs : List Str} {p q : Int} {rs ts : List Int} {s : S} (h : ("Rhythm" : Str) ∈ cs) : (sem_Rhythm___eq__ cs [rhD p rs, rhD q ts] : M S D) s = .ok (.bl (decide (p = q ∧ rs = ts))) s := by
  have ho : okD cs (rhD q ts) = true := by
    show (decide (("Rhythm" : Str) ∈ cs) && decide (("Rhythm" : Str) ∉ tyNames)) = true
    rw [decide_eq_true h]; decide +kernel
  have hr : isRhD (rhD q ts) = true := by show decide (("Rhythm" : Str) = "Rhythm") = true; exact decide_eq_true rfl
  simp only [sem_Rhythm___eq__, a2_run, onRh_run, grd_run, if_pos ho, if_pos hr, pure_run]
theorem rfn_Rhythm___eq__ {cs : List Str} : Rfn (S := S) (sem_Rhythm___eq__ cs) (runB (rd_Rhythm___eq__ cs) N_Rhythm___eq__) := fun ds s h => by
  obtain ⟨x, e, rfl, h1⟩ := a2_ne h
  obtain ⟨p, rs, rfl, h2⟩ := onRh_ne h1
  obtain ⟨hc, h3⟩ := grd_ne h2
  have e0 : (sem_Rhythm___eq__ cs [rhD p rs, e] : M S D) s = (if isRhD e = true then onRh (fun q ts => pure (.bl (decide (p = q ∧ rs = ts)))) e else pure (.bl false) : M S D) s := by
    simp only [sem_Rhythm___eq__, a2_run, onRh_run, grd_run, if_pos hc]
  rw [e0]
  unfold runB rd_Rhythm___eq__
  rw [show startE N_Rhythm___eq__ [rhD p rs, e] = [some (.val (rhD p rs)), some (.val e)] from rfl]
  simp only [sRet_run, andV_run, isi_run, rVar_succ, rVar_zero, Res.bind_ok, isi_rh hc, truD_bl]
  cases hr : isRhD e with
  | false => simp
  | true =>
    rw [if_pos hr] at h3
    obtain ⟨q, ts, rfl, h4⟩ := onRh_ne h3
    have f0 : fldC "Rhythm" "own_form" (rVar 0) ([some (.val (rhD p rs)), some (.val (rhD q ts))] : Env) s = .ok (.tup [.int p, .tup (rs.map .int)]) s := fldC_rh (by simp only [rVar_zero])
    have f1 : fldC "Rhythm" "own_form" (rVar 1) ([some (.val (rhD p rs)), some (.val (rhD q ts))] : Env) s = .ok (.tup [.int q, .tup (ts.map .int)]) s := fldC_rh (by simp only [rVar_succ, rVar_zero])
    simp only [if_true, bin_run, f0, f1, Res.bind_ok, eqD_form, onRh_run, pure_run]
    rfl
end
end DL
set_option Elab.async false
set_option linter.all false
set_option maxRecDepth 100000
set_option maxHeartbeats 4000000
set_option autoImplicit false
namespace Rh
open DL
/-! ### the least common multiple -/
theorem lcmI_eq {i j : Int} (hi : 1 ≤ i) (hj : 1 ≤ j) : lcmI i j = (Int.lcm i j : Int) := by
  have hg : (Int.gcd i j : Int) ∣ i := Int.gcd_dvd_left i j
  unfold lcmI
  rw [Int.mul_comm, ← Int.mul_ediv_assoc _ hg]
  show j * i / ((Nat.gcd i.natAbs j.natAbs : Nat) : Int) = ((Nat.lcm i.natAbs j.natAbs : Nat) : Int)
  unfold Nat.lcm
  rw [Int.natCast_ediv, Int.natCast_mul]
  have e1 : (i.natAbs : Int) = i := by omega
  have e2 : (j.natAbs : Int) = j := by omega
  rw [e1, e2, Int.mul_comm]
theorem lcmI_dvd_left {i j : Int} (hi : 1 ≤ i) (hj : 1 ≤ j) : i ∣ lcmI i j := by rw [lcmI_eq hi hj]; exact Int.dvd_lcm_left i j
theorem lcmI_dvd_right {i j : Int} (hi : 1 ≤ i) (hj : 1 ≤ j) : j ∣ lcmI i j := by rw [lcmI_eq hi hj]; exact Int.dvd_lcm_right i j
theorem lcmI_pos {i j : Int} (hi : 1 ≤ i) (hj : 1 ≤ j) : 1 ≤ lcmI i j := by
  unfold lcmI
  have hg1 : 0 < (Int.gcd i j : Int) := by
    have : 0 < Int.gcd i j := Nat.gcd_pos_of_pos_left _ (by omega)
    omega
  have hg2 : (Int.gcd i j : Int) ≤ i := Int.le_of_dvd (by omega) (Int.gcd_dvd_left i j)
  have h1 : 1 ≤ i / (Int.gcd i j : Int) := by
    rw [Int.le_ediv_iff_mul_le hg1]; omega
  have := Int.mul_le_mul h1 hj (by omega) (by omega)
  omega
theorem lcmI_least {i j c : Int} (hi : 1 ≤ i) (hj : 1 ≤ j) (hc : 1 ≤ c) (h1 : i ∣ c) (h2 : j ∣ c) : lcmI i j ∣ c := by
  rw [lcmI_eq hi hj]
  have e : ((c.toNat : Nat) : Int) = c := Int.toNat_of_nonneg (by omega)
  rw [← e] at h1 h2 ⊢
  exact Int.natCast_dvd_natCast.mpr (Int.lcm_dvd h1 h2)
/-- a day by a round, by a multiple of it -/
theorem mod_mod {d n p : Int} (h : p ∣ n) : d % n % p = d % p := Int.emod_emod_of_dvd d h
/-- rests of a common round -/
theorem wf_filter {n : Int} (hn : 1 ≤ n) (f : Int → Bool) : Wf n ((rngI 0 n).filter f) :=
  ⟨hn, fun r hr => by have := mem_rngI.mp (List.mem_filter.mp hr).1; omega, ((rngI_sorted 0 n).imp fun {a b} h => by omega : (rngI 0 n).Nodup).filter _⟩
theorem has_filter {n : Int} (hn : 1 ≤ n) (f : Int → Bool) (d : Int) : has n ((rngI 0 n).filter f) d ↔ f (d % n) = true := by
  have h0 : 0 ≤ d % n := Int.emod_nonneg _ (by omega)
  have h1 : d % n < n := Int.emod_lt_of_pos _ (by omega)
  show d % n ∈ _ ↔ _
  rw [List.mem_filter, mem_rngI]
  simp [h0, h1]
end Rh
namespace DL
open PySem PySem.Spec PyProof.Rows L2 Rh
section
variable {S : Type}
theorem prp_size {τ : Env → M S D} {env : Env} {s s1 : S} {p : Int} {rs : List Int} (h : τ env s = .ok (rhD p rs) s1) : prp "Rhythm" sem_Rhythm_size τ env s = .ok (.int p) s1 := by
  rw [prp_run, h]
  have e : (sem_Rhythm_size [rhD p rs] : M S D) s1 = .ok (.int p) s1 := by simp only [sem_Rhythm_size, a1_run, onRh_run, pure_run]
  show (grd (("Rhythm" : Str) = "Rhythm") (calmM (sem_Rhythm_size [rhD p rs])) : M S D) s1 = _
  rw [grd_run, if_pos rfl, calm_of e]
/-- x in a rhythm -/
theorem inR_rh {cs : List Str} {x p : Int} {rs : List Int} {s : S} (hp : 0 < p) : (orD (inOwn false "Rhythm" (sem_Rhythm___contains__ cs)) (inD false) (fun _ e => isIns e) (.int x) (rhD p rs) : M S D) s = .ok (.bl (decide (x % p ∈ rs))) s := by
  show (inOwn false "Rhythm" (sem_Rhythm___contains__ cs) (.int x) (rhD p rs) : M S D) s = _
  show (grd (("Rhythm" : Str) = "Rhythm") _ : M S D) s = _
  rw [grd_run, if_pos rfl]
  show ((sem_Rhythm___contains__ cs [rhD p rs, .int x] : M S D) s).bind _ = _
  rw [sem_has ⟨hp, rfl⟩]
  rfl
theorem sizes {p q : Int} {rs ts : List Int} {s : S} {env : Env} (hp : 1 ≤ p ∧ p ≤ 3000) (hq : 1 ≤ q ∧ q ≤ 3000) : cal sem_common [] 2 (aCons (prp "Rhythm" sem_Rhythm_size (rVar 0)) (aCons (prp "Rhythm" sem_Rhythm_size (rVar 1)) aNil)) (some (.val (rhD p rs)) :: some (.val (rhD q ts)) :: env) s = .ok (.int (lcmI p q)) s := by
  have e0 : prp "Rhythm" sem_Rhythm_size (rVar 0) (some (.val (rhD p rs)) :: some (.val (rhD q ts)) :: env) s = .ok (.int p) s := prp_size (rs := rs) (by simp only [rVar_zero])
  have e1 : prp "Rhythm" sem_Rhythm_size (rVar 1) (some (.val (rhD p rs)) :: some (.val (rhD q ts)) :: env) s = .ok (.int q) s := prp_size (rs := ts) (by simp only [rVar_succ, rVar_zero])
  simp only [cal_run, aCons_run, aNil_run, e0, e1, Res.bind_ok, List.length_cons, List.length_nil, List.append_nil, Nat.zero_add, Nat.add_zero, if_true, sem_com (show 1 ≤ p ∧ p < 1073741824 ∧ 1 ≤ q ∧ q < 1073741824 by omega)]
theorem sem_op {cs : List Str} {f : Bool → Bool → Bool} {p q : Int} {rs ts : List Int} {s : S} (h : okR cs p ∧ okR cs q ∧ lcmI p q ≤ 3000) : (semOp cs f [rhD p rs, rhD q ts] : M S D) s = .ok (mkR (lcmI p q) ((rngI 0 (lcmI p q)).filter fun x => f (decide (x % p ∈ rs)) (decide (x % q ∈ ts)))) s := by
  simp only [semOp, a2_run, onRh_run, grd_run, if_pos h, pure_run]
theorem ok_rh {cs : List Str} {p : Int} {rs : List Int} (h : ("Rhythm" : Str) ∈ cs) : okD cs (rhD p rs) = true := by
  show (decide (("Rhythm" : Str) ∈ cs) && decide (("Rhythm" : Str) ∉ tyNames)) = true
  rw [decide_eq_true h]; decide +kernel
theorem isRh_rh {p : Int} {rs : List Int} : isRhD (rhD p rs) = true := by show decide (("Rhythm" : Str) = "Rhythm") = true; exact decide_eq_true rfl
/-- the body of |, & and -, by its test -/
theorem op_run {cs : List Str} {f : Bool → Bool → Bool} {t : Env → M S Bool} {p q : Int} {rs ts : List Int} {s : S} (h : okR cs p ∧ okR cs q ∧ lcmI p q ≤ 3000)
    (ht : ∀ x : Int, t ([some (.val (rhD p rs)), some (.val (rhD q ts)), some (.val (.int (lcmI p q))), some (.val (.int x))] : Env) s = .ok (f (decide (x % p ∈ rs)) (decide (x % q ∈ ts))) s) :
    sSeq (sIf (notT (asT (isi (tb_kit_own_Rhythm cs) (rVar 1)))) sNo sNx) (sSeq (sAsg (cal sem_common [] 2 (aCons (prp "Rhythm" sem_Rhythm_size (rVar 0)) (aCons (prp "Rhythm" sem_Rhythm_size (rVar 1)) aNil))) (gNm 2)) (sRet (mk "Rhythm" (sem_Rhythm___init__ cs) [] 2 (aCons (rVar 2) (aCons (cmp [3] (iR1 (aCons (rVar 2) aNil)) (gNm 3) t (rVar 3)) aNil)))))
      ([some (.val (rhD p rs)), some (.val (rhD q ts)), none, none] : Env) s = .ok (.rt (mkR (lcmI p q) ((rngI 0 (lcmI p q)).filter fun x => f (decide (x % p ∈ rs)) (decide (x % q ∈ ts))))) s := by
  obtain ⟨⟨hp1, hp2, hcs⟩, ⟨hq1, hq2, _⟩, hl⟩ := h
  have hL := lcmI_pos hp1 hq1
  have ew : wipeE ([some (.val (rhD p rs)), some (.val (rhD q ts)), some (.val (.int (lcmI p q))), none] : Env) [3] = [some (.val (rhD p rs)), some (.val (rhD q ts)), some (.val (.int (lcmI p q))), none] := rfl
  have ec := cmpL_ints (S := S) (s := s) (env := [some (.val (rhD p rs)), some (.val (rhD q ts)), some (.val (.int (lcmI p q))), none]) (i := 3) (t := t) (e := rVar 3)
    (fun x => f (decide (x % p ∈ rs)) (decide (x % q ∈ ts))) (fun x => .int x) (ns := rngI 0 (lcmI p q)) (fun x _ => by
      simp only [List.set_cons_succ, List.set_cons_zero, ht]) (fun x _ _ => by simp only [List.set_cons_succ, List.set_cons_zero, rVar_succ, rVar_zero])
  have hr : ((rngI 0 (lcmI p q)).map D.int).length ≤ sizeLine := by rw [List.length_map, rngI_length]; exact sz3 (by omega)
  have hb : -(2 ^ 62) ≤ lcmI p q ∧ lcmI p q < 2 ^ 62 := by omega
  have ea : (aCons (rVar 2) (aCons (cmp [3] (iR1 (aCons (rVar 2) aNil)) (gNm 3) t (rVar 3)) aNil)) ([some (.val (rhD p rs)), some (.val (rhD q ts)), some (.val (.int (lcmI p q))), none] : Env) s = .ok [.int (lcmI p q), .lst (((rngI 0 (lcmI p q)).filter fun x => f (decide (x % p ∈ rs)) (decide (x % q ∈ ts))).map .int)] s := by
    simp only [aCons_run, aNil_run, cmp_run, iR1_run, rVar_succ, rVar_zero, Res.bind_ok, if_pos hb, rngD_eq, if_pos hr, ew, calm_of ec]
  have hw : wfB (lcmI p q) ((rngI 0 (lcmI p q)).filter fun x => f (decide (x % p ∈ rs)) (decide (x % q ∈ ts))) = true ∧ lcmI p q ≤ 3000 ∧ ((rngI 0 (lcmI p q)).filter fun x => f (decide (x % p ∈ rs)) (decide (x % q ∈ ts))).length ≤ 3000 :=
    ⟨wfB_iff.mpr (wf_filter hL _), hl, Nat.le_trans (List.length_filter_le _ _) (by rw [rngI_length]; omega)⟩
  simp only [sSeq_run, sIf_run, notT_run, asT_run, isi_run, rVar_succ, rVar_zero, Res.bind_ok, isi_rh (ok_rh (p := q) (rs := ts) hcs), isRh_rh, Bool.not_true, Bool.false_eq_true, if_false, sNx_run, sAsg_run, sizes (env := [none, none]) ⟨hp1, hp2⟩ ⟨hq1, hq2⟩, gNm_run, List.set_cons_succ, List.set_cons_zero, sRet_run, mk_rh ea (.inl rfl) hw]
theorem rfn_Rhythm___and__ {cs : List Str} : Rfn (S := S) (sem_Rhythm___and__ cs) (runB (rd_Rhythm___and__ cs) N_Rhythm___and__) := fun ds s h => by
  obtain ⟨x, y, rfl, h1⟩ := a2_ne h
  obtain ⟨p, rs, rfl, h2⟩ := onRh_ne h1
  obtain ⟨q, ts, rfl, h3⟩ := onRh_ne h2
  obtain ⟨hc, h4⟩ := grd_ne h3
  have e := op_run (S := S) (s := s) (rs := rs) (ts := ts) (f := fun a b => a && b) hc (t := andT (asT (bin (orD (inOwn false "Rhythm" (sem_Rhythm___contains__ cs)) (inD false) fun _ e => isIns e) (rVar 3) (rVar 0))) (asT (bin (orD (inOwn false "Rhythm" (sem_Rhythm___contains__ cs)) (inD false) fun _ e => isIns e) (rVar 3) (rVar 1)))) (fun x => by
    have := hc.1.1; have := hc.2.1.1
    simp only [andT_run, asT_run, bin_run, rVar_succ, rVar_zero, Res.bind_ok, inR_rh (show 0 < p by omega), inR_rh (show 0 < q by omega)]
    cases decide (x % p ∈ rs) <;> simp)
  show runB _ _ _ s = (semOp cs _ _ : M S D) s
  rw [sem_op hc]
  unfold runB rd_Rhythm___and__
  rw [show startE N_Rhythm___and__ [rhD p rs, rhD q ts] = [some (.val (rhD p rs)), some (.val (rhD q ts)), none, none] from rfl, e]
end
end DL
set_option Elab.async false
set_option linter.all false
set_option maxRecDepth 100000
set_option maxHeartbeats 4000000
set_option autoImplicit false
/-! printed by tools/mklw.py: the drawing helpers of the laws -/
namespace DL
open PySem PySem.Spec PyProof.Rows L2
abbrev N__law_mixed : List Str := ["_law_draw", "_law_turn", "_law_found", "_law_prime", "_law_blend", "_law_cell"]
def rd__law_mixed (cells : List Int) : Env → M DrS Flw :=
  (sSeq (sAsg (bin addD (drwGet (fun s => .int s.turn) (rVar 0)) (rC (.int 1))) (gNm 1)) (sSeq (drwSet (fun i s => { s with turn := i }) (rVar 1) (rVar 0)) (sSeq (sAsg (rC (.int 0)) (gNm 2)) (sSeq (sFor (iSq (lstD (aCons (rC (.int 2147483629)) (aCons (rC (.int 2147483587)) (aCons (rC (.int 2147483579)) (aCons (rC (.int 2147483563)) aNil)))))) (gNm 3) (sSeq (sAsg (bin modD (bcl int1D (aCons (bin addD (bin mulD (rVar 1) (rC (.int 69621))) (bin divD (rVar 3) (rC (.int 7)))) aNil)) (rVar 3)) (gNm 4)) (sSeq (sFor (iCl cells (drwGet (fun _ => .hnd 2) (rVar 0))) (gNm 5) (sAsg (bin modD (bcl int1D (aCons (bin addD (bin mulD (rVar 4) (rC (.int 48271))) (rVar 5)) aNil)) (rVar 3)) (gNm 4))) (sAsg (bin addD (bin mulD (rVar 2) (rC (.int 2147483647))) (bin modD (bcl int1D (aCons (bin powD (rVar 4) (rC (.int 5))) aNil)) (rVar 3))) (gNm 2))))) (sRet (rVar 2))))))
def sem__law_mixed (cells : List Int) : List D → M DrS D := runB (rd__law_mixed cells) N__law_mixed
abbrev N__law_take : List Str := ["_law_draw", "_law_many", "_law_found"]
def rd__law_take (cells : List Int) : Env → M DrS Flw :=
  (sSeq (sIf (andT (asT (bin (eqD false) (drwGet (fun s => .int s.left) (rVar 0)) (rC (.int 0)))) (neW (drwGet (fun _ => .hnd 1) (rVar 0)))) (drwSet (fun i s => { s with left := i }) (popW (drwGet (fun _ => .hnd 1) (rVar 0))) (rVar 0)) sNx) (sSeq (sIf (asT (bin (eqD false) (drwGet (fun s => .int s.left) (rVar 0)) (rC (.int 0)))) (drwSet (fun i s => { s with left := i }) (cal (sem__law_mixed cells) [] 1 (aCons (rVar 0) aNil)) (rVar 0)) sNx) (sSeq (sAsg (bin modD (bcl int1D (aCons (drwGet (fun s => .int s.left) (rVar 0)) aNil)) (rVar 1)) (gNm 2)) (sSeq (drwSet (fun i s => { s with left := i }) (bin divD (drwGet (fun s => .int s.left) (rVar 0)) (rVar 1)) (rVar 0)) (sRet (rVar 2))))))
def sem__law_take (cells : List Int) : List D → M DrS D := runB (rd__law_take cells) N__law_take
abbrev N__law_pick : List Str := ["_law_draw", "_law_some"]
def rd__law_pick (cells : List Int) : Env → M DrS Flw :=
  (sRet (bin ixD (rVar 1) (cal (sem__law_take cells) [] 2 (aCons (rVar 0) (aCons (bcl lenD (aCons (rVar 1) aNil)) aNil)))))
def sem__law_pick (cells : List Int) : List D → M DrS D := runB (rd__law_pick cells) N__law_pick
end DL
set_option Elab.async false
set_option linter.all false
set_option maxRecDepth 100000
set_option maxHeartbeats 4000000
set_option autoImplicit false
namespace DL
open PySem PySem.Spec PyProof.Rows L2
/-! ### what always ends, whatever is drawn -/
section
variable {S α β : Type}
def Yes (m : M S α) (P : α → Prop) : Prop := ∀ s, ∃ a s', m s = .ok a s' ∧ P a
theorem Yes.pure {a : α} {P : α → Prop} (h : P a) : Yes (Pure.pure a : M S α) P := fun s => ⟨a, s, rfl, h⟩
theorem Yes.bind {m : M S α} {f : α → M S β} {P : α → Prop} {Q : β → Prop} (h : Yes m P) (k : ∀ a, P a → Yes (f a) Q) : Yes (m >>= f) Q := fun s => by
  obtain ⟨a, s1, e, p⟩ := h s
  obtain ⟨b, s2, e2, q⟩ := k a p s1
  refine ⟨b, s2, ?_, q⟩
  show (m s).bind _ = _
  rw [e]; exact e2
theorem Yes.mono {m : M S α} {P Q : α → Prop} (h : Yes m P) (k : ∀ a, P a → Q a) : Yes m Q := fun s => by
  obtain ⟨a, s1, e, p⟩ := h s
  exact ⟨a, s1, e, k a p⟩
theorem Yes.calm {m : M S α} {P : α → Prop} (h : Yes m P) : Yes (calmM m) P := fun s => by
  obtain ⟨a, s1, e, p⟩ := h s
  exact ⟨a, s1, by unfold calmM; rw [e], p⟩
theorem Yes.of {m : M S α} {a : α} (h : ∀ s, m s = .ok a s) : Yes m (· = a) := fun s => ⟨a, s, h s, rfl⟩
/-- a loop that only goes on -/
theorem Yes.loop {γ : D → Env → M S Env} {τ : Env → M S Flw} (I : Env → Prop) : ∀ {xs : List D}, (∀ x ∈ xs, ∀ env, I env → Yes (γ x env) fun e => Yes (τ e) fun f => ∃ e', f = .nx e' ∧ I e') → ∀ {env : Env}, I env → Yes (forL γ τ xs env) fun f => ∃ e', f = .nx e' ∧ I e'
  | [], _, env, i => Yes.pure ⟨env, rfl, i⟩
  | x :: xs, h, env, i => by
    refine Yes.bind (h x List.mem_cons_self env i) fun e he => Yes.bind he ?_
    rintro f ⟨e', rfl, i'⟩
    exact Yes.loop I (xs := xs) (fun y hy => h y (List.mem_cons_of_mem _ hy)) i'
/-- a list that is picked out -/
theorem Yes.comp {γ : D → Env → M S Env} {t : Env → M S Bool} {e : Env → M S D} {env : Env} : ∀ {xs : List D}, (∀ x ∈ xs, Yes (γ x env) fun e1 => Yes (t e1) fun _ => Yes (e e1) (· = x)) → Yes (cmpL γ t e env xs) fun ys => ys.Sublist xs
  | [], _ => Yes.pure (List.Sublist.refl _)
  | x :: xs, h => by
    have ih := Yes.comp (xs := xs) (fun y hy => h y (List.mem_cons_of_mem _ hy))
    refine Yes.bind (h x List.mem_cons_self) fun e1 he => Yes.bind he fun b hb => ?_
    cases b with
    | true => exact Yes.bind hb fun y hy => Yes.bind ih fun ys hys => Yes.pure (by subst hy; exact hys.cons_cons _)
    | false => exact Yes.mono ih fun ys hys => hys.cons _
/-- a list of what is drawn -/
theorem Yes.list {γ : D → Env → M S Env} {e : Env → M S D} {env : Env} (P : D → Prop) : ∀ {xs : List D}, (∀ x ∈ xs, Yes (γ x env) fun e1 => Yes (e e1) P) → Yes (cmpL γ tYs e env xs) fun ys => ys.length = xs.length ∧ ∀ y ∈ ys, P y
  | [], _ => Yes.pure ⟨rfl, by simp⟩
  | x :: xs, h => by
    have ih := Yes.list P (xs := xs) (fun y hy => h y (List.mem_cons_of_mem _ hy))
    refine Yes.bind (h x List.mem_cons_self) fun e1 he => Yes.bind (P := (· = true)) (fun s => ⟨true, s, rfl, rfl⟩) fun b hb => ?_
    subst hb
    exact Yes.bind he fun y hy => Yes.bind ih fun ys hys => Yes.pure ⟨by simp [hys.1], by
      intro z hz
      rcases List.mem_cons.mp hz with rfl | hz
      · exact hy
      · exact hys.2 z hz⟩
theorem Yes.runB {rd : Env → M S Flw} {N : List Str} {ds : List D} {P : D → Prop} (h : Yes (rd (startE N ds)) fun f => ∃ d, f = .rt d ∧ P d) : Yes (runB rd N ds) P := fun s => by
  obtain ⟨a, s1, e, d, rfl, p⟩ := h s
  exact ⟨d, s1, by unfold DL.runB; rw [e], p⟩
theorem Yes.seq {a b : Env → M S Flw} {env : Env} {I : Env → Prop} {Q : Flw → Prop} (h : Yes (a env) fun f => ∃ e, f = .nx e ∧ I e) (k : ∀ e, I e → Yes (b e) Q) : Yes (sSeq a b env) Q := fun s => by
  obtain ⟨f, s1, e, e', rfl, i⟩ := h s
  obtain ⟨g, s2, e2, q⟩ := k e' i s1
  refine ⟨g, s2, ?_, q⟩
  rw [sSeq_run, e]; exact e2
theorem Yes.set {τ : Env → M S D} {env : Env} {i : Nat} {P : D → Prop} (h : Yes (τ env) P) : Yes (sAsg τ (gNm i) env) fun f => ∃ e, f = .nx e ∧ ∃ d, P d ∧ e = env.set i (some (.val d)) := fun s => by
  obtain ⟨d, s1, e, p⟩ := h s
  exact ⟨_, s1, by rw [sAsg_run, e]; rfl, _, rfl, d, p, rfl⟩
theorem Yes.ret {τ : Env → M S D} {env : Env} {P : D → Prop} (h : Yes (τ env) P) : Yes (sRet τ env) fun f => ∃ d, f = .rt d ∧ P d := fun s => by
  obtain ⟨d, s1, e, p⟩ := h s
  exact ⟨_, s1, by rw [sRet_run, e]; rfl, d, rfl, p⟩
theorem Yes.if_ {t : Env → M S Bool} {a b : Env → M S Flw} {env : Env} {P : Bool → Prop} {Q : Flw → Prop} (h : Yes (t env) P) (k : P true → Yes (a env) Q) (k' : P false → Yes (b env) Q) : Yes (sIf t a b env) Q := fun s => by
  obtain ⟨c, s1, e, p⟩ := h s
  cases c with
  | true => obtain ⟨g, s2, e2, q⟩ := k p s1; exact ⟨g, s2, by rw [sIf_run, e]; exact e2, q⟩
  | false => obtain ⟨g, s2, e2, q⟩ := k' p s1; exact ⟨g, s2, by rw [sIf_run, e]; exact e2, q⟩
theorem Yes.bin {f : D → D → M S D} {τ υ : Env → M S D} {env : Env} {P Q R : D → Prop} (h : Yes (τ env) P) (h' : Yes (υ env) Q) (k : ∀ x y, P x → Q y → Yes (f x y) R) : Yes (DL.bin f τ υ env) R :=
  Yes.bind h fun x hx => Yes.bind h' fun y hy => k x y hx hy
theorem Yes.asT {τ : Env → M S D} {env : Env} {P : Bool → Prop} (h : Yes (τ env) fun d => ∃ b, d = .bl b ∧ P b) : Yes (DL.asT τ env) P := fun s => by
  obtain ⟨d, s1, e, b, rfl, p⟩ := h s
  exact ⟨b, s1, by rw [asT_run, e]; rfl, p⟩
theorem Yes.cal {sem : List D → M S D} {n : Nat} {l : Env → M S (List D)} {env : Env} {P : List D → Prop} {Q : D → Prop} (h : Yes (l env) fun ds => ds.length = n ∧ P ds) (k : ∀ ds, P ds → Yes (sem ds) Q) : Yes (DL.cal sem [] n l env) Q := fun s => by
  obtain ⟨ds, s1, e, hl, p⟩ := h s
  obtain ⟨d, s2, e2, q⟩ := k ds p s1
  exact ⟨d, s2, by rw [cal_run, e]; simp [hl, e2], q⟩
end
/-! ### whole numbers -/
section
variable {S : Type} {env : Env} {τ υ : Env → M S D}
def IntE (τ : Env → M S D) (env : Env) (P : Int → Prop) : Prop := Yes (τ env) fun d => ∃ v, d = .int v ∧ P v
theorem IntE.c {i : Int} {P : Int → Prop} (h : P i) : IntE (rC (.int i) : Env → M S D) env P := fun s => ⟨_, s, rfl, i, rfl, h⟩
theorem IntE.var {i : Nat} {v : Int} {P : Int → Prop} (e : env[i]? = some (some (.val (.int v)))) (h : P v) : IntE (rVar i : Env → M S D) env P := fun s => ⟨_, s, rVar_run e, v, rfl, h⟩
theorem IntE.op {C : Int → Int → Prop} [∀ i j, Decidable (C i j)] {g : Int → Int → Int} {P Q R : Int → Prop} (h : IntE τ env P) (h' : IntE υ env Q) (k : ∀ i j, P i → Q j → C i j ∧ R (g i j)) : IntE (bin (intOp C fun i j => .int (g i j)) τ υ) env R :=
  Yes.bin h h' (by
    rintro x y ⟨i, rfl, hi⟩ ⟨j, rfl, hj⟩ s
    obtain ⟨c, r⟩ := k i j hi hj
    exact ⟨_, s, by rw [intOp_run, if_pos c], _, rfl, r⟩)
theorem IntE.op0 {g : Int → Int → Int} {P Q R : Int → Prop} (h : IntE τ env P) (h' : IntE υ env Q) (k : ∀ i j, P i → Q j → R (g i j)) : IntE (bin (intOp0 fun i j => .int (g i j)) τ υ) env R :=
  Yes.bin h h' (by
    rintro x y ⟨i, rfl, hi⟩ ⟨j, rfl, hj⟩ s
    exact ⟨_, s, intOp0_run, _, rfl, k i j hi hj⟩)
theorem IntE.add {P Q R : Int → Prop} (h : IntE τ env P) (h' : IntE υ env Q) (k : ∀ i j, P i → Q j → R (i + j)) : IntE (bin addD τ υ) env R :=
  Yes.bin h h' (by
    rintro x y ⟨i, rfl, hi⟩ ⟨j, rfl, hj⟩ s
    exact ⟨_, s, addD_int, _, rfl, k i j hi hj⟩)
theorem IntE.int1 {P : Int → Prop} (h : IntE τ env P) : IntE (bcl int1D (aCons τ aNil)) env P := fun s => by
  obtain ⟨d, s1, e, v, rfl, p⟩ := h s
  exact ⟨.int v, s1, by rw [bcl_run, aCons_run, e]; rfl, v, rfl, p⟩
theorem IntE.set {i : Nat} {P : Int → Prop} (h : IntE τ env P) : Yes (sAsg τ (gNm i) env) fun f => ∃ e, f = .nx e ∧ ∃ v, P v ∧ e = env.set i (some (.val (.int v))) := Yes.mono (Yes.set h) (by
  rintro _ ⟨e, rfl, d, ⟨v, rfl, p⟩, rfl⟩
  exact ⟨_, rfl, v, p, rfl⟩)
/-- a test of two whole numbers -/
theorem IntE.eq {P Q : Int → Prop} {neg : Bool} (h : IntE τ env P) (h' : IntE υ env Q) : Yes (asT (bin (eqD neg) τ υ) env) fun b => ∃ i j, P i ∧ Q j ∧ b = (if neg then !(i == j) else (i == j)) :=
  Yes.asT (Yes.bin h h' (by
    rintro x y ⟨i, rfl, hi⟩ ⟨j, rfl, hj⟩ s
    exact ⟨_, s, eqD_int, _, rfl, i, j, hi, hj, rfl⟩))
end
section
variable {s : DrS} {τ υ : Env → M DrS D}
@[simp] theorem drwGet_run {f : DrS → D} {es : Env} : drwGet f (rVar 0) (some (.val (.hnd 0)) :: es) s = .ok (f s) s := rfl
@[simp] theorem drwSet_run {f : Int → DrS → DrS} {es : Env} : drwSet f τ (rVar 0) (some (.val (.hnd 0)) :: es) s = (τ (some (.val (.hnd 0)) :: es) s).bind fun d s1 => onInt (fun i => fun s2 => .ok (.nx (some (.val (.hnd 0)) :: es)) (f i s2)) d s1 := rfl
@[simp] theorem iCl_run {cells : List Int} {es : Env} {f : DrS → D} (h : f s = .hnd 2) : iCl cells (drwGet f (rVar 0)) (some (.val (.hnd 0)) :: es) s = .ok (cells.map .int) s := by
  unfold iCl
  show (drwGet f (rVar 0) (some (.val (.hnd 0)) :: es) s).bind _ = _
  rw [drwGet_run, h]; rfl
theorem IntE.put {f : Int → DrS → DrS} {es : Env} {P : Int → Prop} (h : IntE τ (some (.val (.hnd 0)) :: es) P) : Yes (drwSet f τ (rVar 0) (some (.val (.hnd 0)) :: es)) fun g => ∃ e, g = .nx e ∧ e = some (.val (.hnd 0)) :: es := fun s => by
  obtain ⟨d, s1, e, v, rfl, p⟩ := h s
  exact ⟨_, _, by rw [drwSet_run, e]; rfl, _, rfl, rfl⟩
theorem IntE.turn {es : Env} : IntE (drwGet (fun s => .int s.turn) (rVar 0)) (some (.val (.hnd 0)) :: es) fun _ => True := fun s => ⟨_, s, rfl, _, rfl, trivial⟩
theorem IntE.left {es : Env} : IntE (drwGet (fun s => .int s.left) (rVar 0)) (some (.val (.hnd 0)) :: es) fun _ => True := fun s => ⟨_, s, rfl, _, rfl, trivial⟩
theorem mixed_ok (cells : List Int) : Yes (sem__law_mixed cells [.hnd 0]) fun d => ∃ v, d = .int v ∧ True := by
  refine Yes.runB ?_
  show Yes (rd__law_mixed cells [some (.val (.hnd 0)), none, none, none, none, none]) _
  unfold rd__law_mixed
  refine Yes.seq (IntE.set (IntE.add (R := fun _ => True) IntE.turn (IntE.c (P := fun _ => True) trivial) fun _ _ _ _ => trivial)) ?_
  rintro _ ⟨t, -, rfl⟩
  refine Yes.seq (IntE.put (IntE.var (P := fun _ => True) rfl trivial)) ?_
  rintro _ rfl
  refine Yes.seq (IntE.set (IntE.c (P := fun _ => True) trivial)) ?_
  rintro _ ⟨f0, -, rfl⟩
  refine Yes.seq (I := fun e => ∃ (f : Int) (x y z : Option Slot), e = [some (.val (.hnd 0)), some (.val (.int t)), some (.val (.int f)), x, y, z]) ?_ ?_
  · show Yes (sFor _ _ _ _) _
    refine Yes.bind (P := (· = [D.int 2147483629, .int 2147483587, .int 2147483579, .int 2147483563])) (fun s => ⟨_, s, by simp [sizeLine_eq], rfl⟩) fun ds hd => ?_
    subst hd
    refine Yes.loop _ ?_ ⟨f0, none, none, none, rfl⟩
    rintro x hx _ ⟨f, a, b, c, rfl⟩
    obtain ⟨p, rfl, hp⟩ : ∃ p : Int, x = .int p ∧ 0 < p ∧ p < 2147483648 := by
      simp only [List.mem_cons, List.not_mem_nil, or_false] at hx
      rcases hx with rfl | rfl | rfl | rfl <;> exact ⟨_, rfl, by decide⟩
    refine Yes.mono (Yes.of fun s => gNm_run) ?_
    rintro _ rfl
    show Yes (sSeq _ _ [some (.val (.hnd 0)), some (.val (.int t)), some (.val (.int f)), some (.val (.int p)), b, c]) _
    have md : ∀ i j : Int, True → j = p → 0 < j ∧ (0 ≤ i % j ∧ i % j < 2147483648) := fun i j _ hj => by
      subst hj
      exact ⟨hp.1, Int.emod_nonneg _ (by omega), by have := Int.emod_lt_of_pos i hp.1; omega⟩
    refine Yes.seq (IntE.set (IntE.op (R := fun v => 0 ≤ v ∧ v < 2147483648) (IntE.int1 (IntE.add (R := fun _ => True) (IntE.op (P := fun _ => True) (Q := fun j => j = 69621) (R := fun _ => True) (IntE.var rfl trivial) (IntE.c rfl) fun i j _ hj => ⟨.inr (by subst hj; decide), trivial⟩) (IntE.op (P := fun _ => True) (Q := fun j => j = 7) (R := fun _ => True) (IntE.var rfl trivial) (IntE.c rfl) fun i j _ hj => ⟨by subst hj; exact ⟨by decide, by decide⟩, trivial⟩) fun _ _ _ _ => trivial)) (IntE.var (P := fun j => j = p) rfl rfl) md)) ?_
    rintro _ ⟨v, hv, rfl⟩
    refine Yes.seq (I := fun e => ∃ (v : Int) (z : Option Slot), (0 ≤ v ∧ v < 2147483648) ∧ e = [some (.val (.hnd 0)), some (.val (.int t)), some (.val (.int f)), some (.val (.int p)), some (.val (.int v)), z]) ?_ ?_
    · show Yes (sFor _ _ _ _) _
      refine Yes.bind (P := (· = cells.map D.int)) (fun s => ⟨_, s, iCl_run rfl, rfl⟩) fun ds hd => ?_
      subst hd
      refine Yes.loop _ ?_ ⟨v, c, hv, rfl⟩
      rintro x hx _ ⟨w, z, hw, rfl⟩
      obtain ⟨n, -, rfl⟩ := List.mem_map.mp hx
      refine Yes.mono (Yes.of fun s => gNm_run) ?_
      rintro _ rfl
      refine Yes.mono (IntE.set (IntE.op (R := fun v => 0 ≤ v ∧ v < 2147483648) (IntE.int1 (IntE.add (R := fun _ => True) (IntE.op (P := fun _ => True) (Q := fun j => j = 48271) (R := fun _ => True) (IntE.var rfl trivial) (IntE.c rfl) fun i j _ hj => ⟨.inr (by subst hj; decide), trivial⟩) (IntE.var (P := fun _ => True) rfl trivial) fun _ _ _ _ => trivial)) (IntE.var (P := fun j => j = p) rfl rfl) md)) ?_
      rintro _ ⟨e, rfl, u, hu, rfl⟩
      exact ⟨_, rfl, u, _, hu, rfl⟩
    · rintro _ ⟨w, z, hw, rfl⟩
      refine Yes.mono (IntE.set (IntE.add (R := fun _ => True) (IntE.op (P := fun _ => True) (Q := fun j => j = 2147483647) (R := fun _ => True) (IntE.var rfl trivial) (IntE.c rfl) fun i j _ hj => ⟨.inr (by subst hj; decide), trivial⟩) (IntE.op (R := fun v => 0 ≤ v ∧ v < 2147483648) (IntE.int1 (IntE.op (P := fun i => i = w) (Q := fun j => j = 5) (R := fun _ => True) (IntE.var rfl rfl) (IntE.c rfl) fun i j hi hj => ⟨⟨by omega, by omega, by subst hi; omega⟩, trivial⟩)) (IntE.var (P := fun j => j = p) rfl rfl) md) fun _ _ _ _ => trivial)) ?_
      rintro _ ⟨e, rfl, u, hu, rfl⟩
      exact ⟨_, rfl, u, _, _, _, rfl⟩
  · rintro _ ⟨f, x, y, z, rfl⟩
    exact Yes.ret (IntE.var rfl trivial)
theorem args2 {S : Type} {τ υ : Env → M S D} {env : Env} {P Q : D → Prop} (h : Yes (τ env) P) (h' : Yes (υ env) Q) : Yes (aCons τ (aCons υ aNil) env) fun ds => ds.length = 2 ∧ ∃ x y, ds = [x, y] ∧ P x ∧ Q y :=
  Yes.bind h fun x hx => Yes.bind (P := fun ds => ∃ y, ds = [y] ∧ Q y) (Yes.bind h' fun y hy => Yes.bind (P := (· = [])) (fun s => ⟨[], s, rfl, rfl⟩) fun l hl => Yes.pure ⟨y, by rw [hl], hy⟩) fun ds hd => by
    obtain ⟨y, rfl, hy⟩ := hd
    exact Yes.pure ⟨rfl, x, y, rfl, hx, hy⟩
theorem args1 {S : Type} {τ : Env → M S D} {env : Env} {P : D → Prop} (h : Yes (τ env) P) : Yes (aCons τ aNil env) fun ds => ds.length = 1 ∧ ∃ x, ds = [x] ∧ P x :=
  Yes.bind h fun x hx => Yes.bind (P := (· = [])) (fun s => ⟨[], s, rfl, rfl⟩) fun l hl => Yes.pure (by subst hl; exact ⟨rfl, x, rfl, hx⟩)
theorem take_ok (cells : List Int) {many : Int} (h : 0 < many) (h' : many < 1073741824) : Yes (sem__law_take cells [.hnd 0, .int many]) fun d => ∃ v, d = .int v ∧ (0 ≤ v ∧ v < many) := by
  refine Yes.runB ?_
  show Yes (rd__law_take cells [some (.val (.hnd 0)), some (.val (.int many)), none]) _
  unfold rd__law_take
  refine Yes.seq (I := fun e => e = [some (.val (.hnd 0)), some (.val (.int many)), none]) ?_ ?_
  · intro s
    rw [sIf_run, andT_run, asT_run, bin_run, drwGet_run, Res.bind_ok, rC_run, Res.bind_ok, eqD_int, Res.bind_ok]
    by_cases hl : s.left = 0
    · cases hw : s.wide with
      | nil => exact ⟨_, s, by simp [hl, neW, hw], _, rfl, rfl⟩
      | cons w ws => exact ⟨_, _, by simp [hl, neW, hw, popW]; rfl, _, rfl, rfl⟩
    · exact ⟨_, s, by simp [hl], _, rfl, rfl⟩
  rintro _ rfl
  refine Yes.seq (I := fun e => e = [some (.val (.hnd 0)), some (.val (.int many)), none]) ?_ ?_
  · refine Yes.if_ (IntE.eq IntE.left (IntE.c (P := fun _ => True) trivial)) (fun _ => ?_) fun _ => fun s => ⟨_, s, rfl, _, rfl, rfl⟩
    refine IntE.put (P := fun _ => True) (Yes.cal (args1 (P := (· = .hnd 0)) fun s => ⟨_, s, rfl, rfl⟩) ?_)
    rintro _ ⟨_, rfl, rfl⟩
    exact mixed_ok cells
  rintro _ rfl
  refine Yes.seq (IntE.set (IntE.op (R := fun v => 0 ≤ v ∧ v < many) (IntE.int1 IntE.left) (IntE.var (P := fun j => j = many) rfl rfl) fun i j _ hj => ⟨by omega, by subst hj; exact ⟨Int.emod_nonneg _ (by omega), Int.emod_lt_of_pos i h⟩⟩)) ?_
  rintro _ ⟨v, hv, rfl⟩
  refine Yes.seq (IntE.put (IntE.op (R := fun _ => True) IntE.left (IntE.var (P := fun j => j = many) rfl rfl) fun i j _ hj => ⟨⟨by omega, by omega⟩, trivial⟩)) ?_
  rintro _ rfl
  exact Yes.ret (IntE.var rfl hv)
theorem take_in {cells : List Int} {env : Env} {τ : Env → M DrS D} {i : Nat} {many : Int} (e : env[i]? = some (some (.val (.hnd 0)))) (ht : IntE τ env (· = many)) (h : 0 < many) (h' : many < 1073741824) : IntE (cal (sem__law_take cells) [] 2 (aCons (rVar i) (aCons τ aNil))) env fun v => 0 ≤ v ∧ v < many :=
  Yes.cal (args2 (P := (· = .hnd 0)) (fun s => ⟨_, s, rVar_run e, rfl⟩) ht) (by
    rintro _ ⟨x, y, rfl, rfl, v, rfl, rfl⟩
    exact take_ok cells h h')
theorem pick_ok (cells : List Int) {ds : List D} (h : 0 < ds.length) (h' : ds.length ≤ 100000000) : Yes (sem__law_pick cells [.hnd 0, .lst ds]) fun d => d ∈ ds := by
  refine Yes.runB ?_
  show Yes (rd__law_pick cells [some (.val (.hnd 0)), some (.val (.lst ds))]) _
  unfold rd__law_pick
  refine Yes.ret (Yes.bin (P := (· = .lst ds)) (fun s => ⟨_, s, rfl, rfl⟩) (take_in (many := (ds.length : Int)) rfl (fun s => ⟨_, s, rfl, _, rfl, rfl⟩) (by omega) (by omega)) ?_)
  rintro x y rfl ⟨v, rfl, h1, h2⟩ s
  have hv : v.toNat < ds.length := by omega
  refine ⟨ds[v.toNat], s, ?_, List.getElem_mem hv⟩
  show (match atI ds v with
    | some x => pure x
    | none => stk : M DrS D) s = _
  have : atI ds v = some ds[v.toNat] := by
    unfold atI ixN
    simp [h1, h2, hv]
  rw [this]; rfl
end
end DL
set_option Elab.async false
set_option linter.all false
set_option maxRecDepth 100000
set_option maxHeartbeats 4000000
set_option autoImplicit false
/-! enumerate(tuple): turned from the library's enumerate(list) -/
namespace DL
open PySem PySem.Spec PyProof.Rows L2
theorem meets_enum1B {v : Value} {o : Obj} {H : Heap → Prop} (B : PySem.Begins v o H) :
    Meets (Builtin.«enumerate.__new__» ⟨[.type "enumerate", v], []⟩) (fun _ R s => H s.heap ∧
      R (.ok (.ret (.ref (s.heap.push o).objs.size))) { s with heap := (s.heap.push o).push { cls := .type "enumerate", data := .fields #[.none, .bool false, .ref s.heap.objs.size, rawInt 0, .none, .none] } }) :=
  .of_wp fun prog w A R s h => by
    obtain ⟨hp, g, d, tk, os⟩ := s; obtain ⟨h1, h⟩ := h
    have hsub := sub_enumerate
    have q1 : ∀ {A' : Around} {E : Value → Shared → Prop} {Q : Value → Shared → Prop}, Q (.ref hp.objs.size) ⟨hp.push o, g, d, tk, os⟩ → wpAny (model prog w) A' (pyIter v) Q E ⟨hp, g, d, tk, os⟩ :=
      fun q => B.iter prog w _ _ ⟨hp, g, d, tk, os⟩ _ h1 q
    wp_walk using q1
    refine wpAny_stack_any fun st => wpAny_pure ?_
    split
    · rename_i c _ _ _ _ _
      cases (c == Value.type "enumerate")
      · wp_walk using q1
        exact ⟨_, rfl, h⟩
      · wp_walk using q1
        exact ⟨_, rfl, h⟩
    · wp_walk using q1
      exact ⟨_, rfl, h⟩
theorem call_enum1B {prog : Program} {w : World} {A : Around} {E : Value → Shared → Prop} {s : Shared} {v : Value} {o : Obj} {H : Heap → Prop} {Q : Value → Shared → Prop} (B : PySem.Begins v o H) (h1 : H s.heap)
    (h : ∀ h', IsEnum h' (s.heap.objs.size + 1) s.heap.objs.size 0 .none → h'.get? s.heap.objs.size = some o → h'.objs.size = s.heap.objs.size + 2 →
      (∀ b o, s.heap.get? b = some o → h'.get? b = some o) → Q (.ref (s.heap.objs.size + 1)) { s with heap := h' }) :
    wpAny (model prog w) A (call (.type "enumerate") [v]) Q E s := by
  refine callType_new F.called_enumerate (by decide) (F.typeCall_enumerate_1 _) (F.newCall_enumerate_1 _) (fun obj => F.args_object_init_2 obj _) F.entry_enumerate_new (meets_enum1B B) ⟨h1, ?_⟩
  have hz : (s.heap.push o).objs.size = s.heap.objs.size + 1 := Heap.size_push ..
  show _ ∧ _
  rw [hz]
  have he : IsEnum ((s.heap.push o).push { cls := .type "enumerate", data := .fields #[.none, .bool false, .ref s.heap.objs.size, rawInt 0, .none, .none] }) (s.heap.objs.size + 1) s.heap.objs.size 0 .none := by
    have := Heap.get?_push_size (s.heap.push o) (o := { cls := .type "enumerate", data := .fields #[.none, .bool false, .ref s.heap.objs.size, rawInt 0, .none, .none] }) rfl
    rw [hz] at this; exact this
  exact ⟨⟨_, he, rfl⟩, h _ he (Heap.get?_push_of_some _ (Heap.get?_push_size _ B.free)) (by rw [Heap.size_push, hz]) fun b o x => Heap.get?_push_of_some _ (Heap.get?_push_of_some _ x)⟩
/-- the tuple at a, each item in a new pair -/
def IteT (K : PySem.W.Frag) (a : Addr) : It :=
  ⟨fun i H => ∃ (xs : List V) (x : V), SqT K H a xs ∧ xs[i]? = some x, fun i H v H' => ∃ T x, v = .ref T ∧ H T = none ∧ H' = upd H T (.tup [.int (i : Nat), x]) ∧ ∀ xs, SqT K H a xs → xs[i]? = some x, fun i H => ∃ xs : List V, SqT K H a xs ∧ xs.length ≤ i⟩
theorem next_enumT_end {prog : Program} {w : World} {A : Around} {E : Value → Shared → Prop} {s : Shared} {e it a : Addr} {i : Nat} {j : Int} {items : Array Value} {old : Value} {Q : Option Value → Shared → Prop} (hh : A.handled = none)
    (he : IsEnum s.heap e it j old) (hit : s.heap.IsTupleIter it a i) (ht : s.heap.IsTuple a items) (hx : items[i]? = none)
    (hQ : ∀ h', Heap.ExtBut it s.heap h' → Q none { s with heap := h' }) : wpAny (model prog w) A (pyNext (.ref e)) Q E s := by
  have hT : s.TypeIs (.ref e) "enumerate" := ⟨_, he, rfl⟩
  unfold pyNext
  refine wpAny_bind (wpAny_attempt (wpAny_callSpecial?_slot (name := Str.ofString "__next__") hT F.slot_enumerate_next
    (wpAny_call_entry F.slot_enumerate_next hT F.entry_enumerate_next ?_ (F.args_enumerate_next_1 _))))
  show wpAny _ _ (field (.ref e) 2 >>= _) _ _ _
  refine wpAny_bind (wpAny_field he rfl (x := .ref it) rfl ?_)
  refine wpAny_bind (PySem.wpAny_nextOf_tuple_end hh hit ht hx fun h' x he' hx' => ?_)
  obtain ⟨o, ho, hc⟩ := hx'
  refine wpAny_bind (wpAny_isInstance (T := "StopIteration") (b := true) ⟨o, ho, hc⟩ isSubtype_stop ?_)
  exact wpAny_pure (hQ _ he')
theorem turn_enumT {P : Program} {w : World} {K : PySem.W.Frag} {elts : List Expr} {kk : Nat} {tpos : Pos} (a e it : Addr) :
    Turn P w K (.Tuple elts kk tpos) (IteT K a) [e, it] e (fun i h => (∃ old, IsEnum h e it ((i : Nat) : Int) old) ∧ h.IsTupleIter it a i ∧ e ≠ it ∧ a ≠ it ∧ a ≠ e) where
  mem := by simp
  obj := fun i h st b hb => by
    obtain ⟨⟨old, he⟩, ⟨o, ho, hc, hd⟩, _⟩ := st
    have e' : b = e ∨ b = it := by simpa using hb
    rcases e' with z | z
    · rw [z]; exact ⟨_, he, fun v q => nomatch q⟩
    · rw [z]; exact ⟨o, ho, fun v q => by rw [hd] at q; cases q⟩
  keep := fun i h h' st k => let ⟨⟨old, he⟩, hi, hne⟩ := st; ⟨⟨old, k e (by simp) _ he⟩, hi.at fun o q => k it (by simp) o q, hne⟩
  item := by
    intro X hP hw hK hc i pins s σ H E I hf st hg
    subst hP hw hK
    obtain ⟨⟨old, he⟩, hit, hne, hai, hae⟩ := st
    obtain ⟨xs, x, hq, hx⟩ := hg
    obtain ⟨its, rv, p, hz⟩ := I.tuple hq
    obtain ⟨u, hu, ru⟩ := rv.get hx
    have hel : e < s.heap.objs.size := Heap.lt_size he
    have hil : it < s.heap.objs.size := by obtain ⟨_, q, _⟩ := hit; exact Heap.lt_size q
    have hil2 : i < its.toArray.size := by
      have := (List.getElem?_eq_some_iff.mp hu).1
      simpa using this
    have D := PySem.Draws.tuple (prog := X.prog) (w := X.w) (A := X.A.in1) (I.ok.hd hc) it a hai its.toArray
    refine wpAny_pyNext_enum_itemD D he ⟨hit, show s.heap.IsTuple a its.toArray from p⟩ hil2 hne (by simp only [List.mem_cons, List.not_mem_nil, or_false]; exact fun z => z.elim hne (fun y => hae y.symm)) fun y h' tk hP ho hst' hT hsz hk => ?_
    have hy : y = u := by
      have h1 : its.toArray[i]? = some y := hP
      have h2 : its.toArray[i]? = some u := by simpa using hu
      rw [h1] at h2; exact Option.some.inj h2
    subst hy
    refine ⟨_, rfl, wpAny_letOwnedTupleGo_enum (s := { s with heap := h', toks := tk + 1 }) ho fun h'' he' sb => ?_⟩
    have hT2 : h''.get? s.heap.objs.size = some { cls := .type "tuple", data := .seq #[.int i tk, y] } := (sb.2 _ (Nat.ne_of_gt hel)).trans hT
    have new : ObjOk X.prog X.w (upd H s.heap.objs.size (.tup [.int (i : Nat), x])) h'' s.heap.objs.size (.tup [.int (i : Nat), x]) :=
      ⟨by show 2 ≤ sizeLine; decide, [.int i tk, y], .cons ⟨_, rfl⟩ (.cons ru .nil), ⟨_, hT2, rfl, _, rfl⟩⟩
    have I1 : Inv X pins σ (upd H s.heap.objs.size (.tup [.int (i : Nat), x])) { s with heap := h'', toks := tk + 1 } :=
      I.turnedNew (ch := [e, it]) (fun b ob hb q => (sb.2 b (fun z => hb (by simp [z]))).trans (hk b ob (fun z => hb (by simp [z])) (fun z => hb (by simp [z])) q)) hf (Nat.le_refl _) new
    refine ⟨.ref s.heap.objs.size, _, I1, rfl, ⟨_, x, rfl, I.hok.fresh (Nat.le_refl _), rfl, fun ys hy => by rw [I.tuple_inj hy hq]; exact hx⟩, ⟨⟨y, ?_⟩, hst'.1.at fun o q => (sb.2 it (Ne.symm hne)).trans q, hne, hai, hae⟩, fun b hb => ?_⟩
    · have e1 : ((i + 1 : Nat) : Int) = (i : Int) + 1 := by omega
      rw [e1]; exact he'
    · have hb' : b < s.heap.objs.size := by
        have e' : b = e ∨ b = it := by simpa using hb
        rcases e' with z | z
        · rw [z]; exact hel
        · rw [z]; exact hil
      rw [upd_ne (Nat.ne_of_lt hb')]
      exact (hf b hb).1
  done := by
    intro X hP hw hK hc i pins s σ H E I hf st hg
    subst hP hw hK
    obtain ⟨⟨old, he⟩, hit, hne, hai, hae⟩ := st
    obtain ⟨xs, hq, hx⟩ := hg
    obtain ⟨its, rv, p, hz⟩ := I.tuple hq
    obtain ⟨f0, f1, f2, f3, f4, f5⟩ := hf it (by simp)
    have hl := rv.length
    exact next_enumT_end (I.ok.hd hc) he hit (show s.heap.IsTuple a its.toArray from p) (by simp; omega) fun h' eb => ⟨rfl, I.turned (t' := s.toks) (fun b o hb q => eb b o hb q) f0 f1 f3 f4 f5⟩
  self := fun A i s Q E st h => let ⟨⟨_, he⟩, _⟩ := st; wpAny_pyIter_enum he h
/-- enumerate(e), e a list or a tuple -/
def iEnumS (K : PySem.W.Frag) (ta : TA) : TI := fun σ H R => ta σ H fun vs H1 => ∃ a xs, vs = [.ref a] ∧ ((SqL K H1 a xs ∧ R (Ite K a) H1) ∨ (SqT K H1 a xs ∧ R (IteT K a) H1))
theorem pi_enumS {X : Cx} {e : Expr} {ta : TA} {p pos tpos : Pos} {elts : List Expr} {kk : Nat} (hg : Gl X "enumerate") (hm : X.mg "enumerate" = none) (ha : PA X [e] ta) (hs : starEach [e] X.env = [(false, eval e X.env)] := by rfl) :
    PI X (.Tuple elts kk tpos) (.Call (.Name "enumerate" p) [e] [] pos) (iEnumS X.K ta) := by
  refine ⟨fun pins s σ H R I h => ?_⟩
  refine Call_ (ld_blt I hg hm boot_enumerate (PyProof.Rows.callWith_type1 (thn (ha.run pos pins s σ H _ I h) fun us s1 ⟨vs, H1, I1, r1, q1⟩ => ?_) hs rfl))
  obtain ⟨a, xs, ex, q1⟩ := q1
  subst ex
  cases r1 with
  | cons r rr =>
    cases rr
    cases r
    have fin : ∀ b, b ∈ [s1.heap.objs.size + 1, s1.heap.objs.size] → s1.heap.objs.size ≤ b := fun b hb => by
      have e' : b = s1.heap.objs.size + 1 ∨ b = s1.heap.objs.size := by simpa using hb
      rcases e' with z | z
      · rw [z]; exact Nat.le_add_right _ _
      · rw [z]; exact Nat.le_refl _
    rcases q1 with ⟨hq, q⟩ | ⟨hq, q⟩
    · obtain ⟨its, rv, p', hz⟩ := I1.list hq
      refine call_enumerate_list p'.isList fun h' he hit hsz hk => wpAny_pyIter_enum he ?_
      have I2 : Inv X pins σ H1 { s1 with heap := h' } := I1.kept (t' := s1.toks) hk
      exact ⟨s1.heap.objs.size + 1, [s1.heap.objs.size + 1, s1.heap.objs.size], _, _, H1, rfl, I2, turn_enum a (s1.heap.objs.size + 1) s1.heap.objs.size, ⟨⟨.none, he⟩, hit, Nat.succ_ne_self _⟩, fun b hb => I1.fpOk (fin b hb) (I1.hok.fresh (fin b hb)), q⟩
    · obtain ⟨its, rv, p', hz⟩ := I1.tuple hq
      have p2 : s1.heap.IsTuple a its.toArray := p'
      have hal : a < s1.heap.objs.size := by obtain ⟨_, q, _⟩ := p2; exact Heap.lt_size q
      refine call_enum1B (PySem.begins_tuple a its.toArray) p2 fun h' he ho hsz hk => wpAny_pyIter_enum he ?_
      have I2 : Inv X pins σ H1 { s1 with heap := h' } := I1.kept (t' := s1.toks) hk
      exact ⟨s1.heap.objs.size + 1, [s1.heap.objs.size + 1, s1.heap.objs.size], _, _, H1, rfl, I2, turn_enumT a (s1.heap.objs.size + 1) s1.heap.objs.size, ⟨⟨.none, he⟩, ⟨_, ho, rfl, rfl⟩, Nat.succ_ne_self _, Nat.ne_of_lt hal, Nat.ne_of_lt (Nat.lt_succ_of_lt hal)⟩, fun b hb => I1.fpOk (fin b hb) (I1.hok.fresh (fin b hb)), q⟩
end DL
set_option Elab.async false
set_option linter.all false
set_option maxRecDepth 100000
set_option maxHeartbeats 4000000
set_option autoImplicit false
/-! DL: is None, lists of one's own (append, extend, returned), enumerate, list(range), calls of instances, defaults, bottom -/
namespace DL
open PySem PySem.Spec PyProof.Rows L2
variable {S : Type} {X : Cx} {F : Fx S}
/-! ### is None -/
def isND (neg : Bool) : D → D → M S D := fun d e => match e with
  | .non => (match d with
    | .non => pure (.bl (!neg))
    | .hnd _ => stk
    | .dks _ => stk
    | .exc _ _ => stk
    | _ => pure (.bl neg))
  | _ => stk
theorem isND_of {neg : Bool} {G σ H env s d e x y} {Q : VK} (st : StG F G σ H env s) (rx : Rep F.toCc G d x) (ry : Rep F.toCc G e y) (p : Post F G H (isND neg d e s) (K1 F G H σ env Q)) : y = .non ∧ Q (.bl (if neg then !decide (x = .non) else decide (x = .non))) H := by
  have no : ∀ z : V, z ≠ .non → decide (z = V.non) = false := fun z h => decide_eq_false h
  have fin : ∀ b : Bool, (K1 F G H σ env Q) (.bl b) s → Q (.bl b) H := fun b k => k (.bl b) G H (Ext.refl _ _ _) st rfl
  cases e with
  | non =>
    refine ⟨ry, ?_⟩
    cases d with
    | non => cases rx; cases neg <;> exact fin _ p
    | hnd _ => exact p.elim
    | dks _ => exact p.elim
    | exc _ _ => exact p.elim
    | bl b => cases rx; cases neg <;> exact fin _ p
    | int b => cases rx; cases neg <;> exact fin _ p
    | str b => cases rx; cases neg <;> exact fin _ p
    | lst ds => obtain ⟨a, vs, rfl, _⟩ := rx; cases neg <;> exact fin _ p
    | tup ds => obtain ⟨a, vs, rfl, _⟩ := rx; cases neg <;> exact fin _ p
    | dct ds => obtain ⟨a, vs, rfl, _⟩ := rx; cases neg <;> exact fin _ p
    | ins c fs => obtain ⟨a, dx, vs, rfl, _⟩ := rx; cases neg <;> exact fin _ p
    | scr ns => obtain ⟨a, rfl, _⟩ := rx; cases neg <;> exact fin _ p
    | fn i => obtain ⟨a, c, rfl, _⟩ := rx; cases neg <;> exact fin _ p
    | adr a d => obtain ⟨rfl, _⟩ := rx; cases neg <;> exact fin _ p
    | rps d => obtain ⟨x, rfl, _⟩ := rx; cases neg <;> exact fin _ p
  | _ => exact p.elim
theorem od_isN : OpD F (fun x y H Q => y = .non ∧ Q (.bl (decide (x = .non))) H) (isND false) := fun G σ H env s d e x y Q st rx ry p => isND_of st rx ry p
theorem od_notN : OpD F (fun x y H Q => y = .non ∧ Q (.bl (!decide (x = .non))) H) (isND true) := fun G σ H env s d e x y Q st rx ry p => isND_of st rx ry p
/-! ### lists of one's own -/
theorem StG.nreg {G H : Hp} {σ : L2.St} {env : Env} {s : S} (st : StG F G σ H env s) {p : Addr} (n : H p = none) : ¬ F.reg p := fun z => by
  obtain ⟨u, e⟩ := F.there s H p st.gd.w z
  rw [n] at e; cases e
/-- a new list, in a slot of its own -/
theorem StG.own {G H : Hp} {σ : L2.St} {env : Env} {s : S} {ds : List D} {vs : List V} (i : Nat) (st : StG F G σ H env s) {p : Addr} (n : H p = none) (r : RepL F.toCc G ds vs) (hz : vs.length ≤ sizeLine) :
    StG F G (σ.set i (some (.ref p))) (upd H p (.lst vs)) (env.set i (some (.own ds))) s := by
  obtain ⟨g1, e1⟩ := st.gd.open_ n (.lst vs)
  have st1 := st.ext' e1 g1
  have gp : G p = none := st.gd.gh.free n
  refine ⟨st1.ext, g1, by rw [List.length_set, List.length_set]; exact st1.env_.len, fun j sl e => ?_, fun a b ne ha hb => ?_⟩
  · by_cases q : i = j
    · subst q
      have hl : i < env.length := by
        by_cases hl : i < env.length
        · exact hl
        · rw [List.set_eq_of_length_le (by omega), List.getElem?_eq_none (by omega)] at e; cases e
      rw [List.getElem?_set_self hl] at e
      cases e
      exact ⟨_, List.getElem?_set_self (by rw [st.env_.len]; exact hl), p, vs, rfl, upd_same, gp, st.nreg n, st.ext.tr p n, hz, r⟩
    · rw [List.getElem?_set_ne q] at e ⊢
      exact st1.env_.at_ j sl e
  · have own_ne : ∀ j, j ≠ i → isOwn env[j]? → σ[j]? ≠ some (some (V.ref p)) := fun j _ hj z => by
      cases hs : env[j]? with
      | none => rw [hs] at hj; exact hj
      | some sl =>
        rw [hs] at hj
        obtain ⟨o, ho, hr⟩ := st.env_.at_ j sl hs
        rw [ho] at z
        cases z
        cases sl with
        | none => exact hj
        | some sl =>
          cases sl with
          | val d => exact hj
          | own es => obtain ⟨a, us, e1, e2, _⟩ := hr; cases e1; rw [n] at e2; cases e2
          | obj c fs => obtain ⟨a, dx, us, e1, e2, _⟩ := hr; cases e1; rw [n] at e2; cases e2
    have un : ∀ j, j ≠ i → isOwn (env.set i (some (.own ds)))[j]? → isOwn env[j]? := fun j hj h => by
      rw [List.getElem?_set_ne (Ne.symm hj)] at h; exact h
    have at_i : ∀ j, j = i → isOwn (env.set i (some (.own ds)))[j]? → (σ.set i (some (V.ref p)))[j]? = some (some (V.ref p)) := fun j hj h => by
      subst hj
      have hl : j < env.length := by
        by_cases hl : j < env.length
        · exact hl
        · rw [List.set_eq_of_length_le (by omega), List.getElem?_eq_none (by omega)] at h; exact h.elim
      exact List.getElem?_set_self (by rw [st.env_.len]; exact hl)
    by_cases qa : a = i
    · by_cases qb : b = i
      · exact absurd (qa.trans qb.symm) ne
      · rw [at_i a qa ha, List.getElem?_set_ne (Ne.symm qb)]
        exact fun z => own_ne b qb (un b qb hb) z.symm
    · by_cases qb : b = i
      · rw [at_i b qb hb, List.getElem?_set_ne (Ne.symm qa)]
        exact own_ne a qa (un a qa ha)
      · rw [List.getElem?_set_ne (Ne.symm qa), List.getElem?_set_ne (Ne.symm qb)]
        exact st.env_.apart a b ne (un a qa ha) (un b qb hb)
/-- one's own list is written -/
theorem StG.put {G H : Hp} {σ : L2.St} {env : Env} {s : S} {ds es : List D} {us : List V} {i : Nat} {a : Addr} (st : StG F G σ H env s) (hi : env[i]? = some (some (.own ds))) (ha : σ[i]? = some (some (.ref a))) (r : RepL F.toCc G es us) (hz : us.length ≤ sizeLine) :
    StG F G σ (upd H a (.lst us)) (env.set i (some (.own es))) s := by
  obtain ⟨o, ho, a', vs, e1, hH, hG, nr, h0, hz0, r0⟩ := st.env_.at_ i _ hi
  rw [ha] at ho
  cases ho
  cases e1
  have hl : i < env.length := (List.getElem?_eq_some_iff.mp hi).1
  refine ⟨⟨st.ext.g, fun b o hb nb nt => ?_, st.ext.nw, fun b hb => ?_⟩, st.gd.write hH hG nr _, by rw [List.length_set]; exact st.env_.len, fun j sl e => ?_, fun x y ne hx hy => ?_⟩
  · have hb' := st.ext.fr b o hb nb nt
    rw [upd_ne (fun z => by rw [z, h0] at hb; cases hb)]; exact hb'
  · by_cases q : b = a
    · subst q; rw [upd_same] at hb; cases hb
    · rw [upd_ne q] at hb; exact st.ext.tr b hb
  · by_cases q : i = j
    · subst q
      rw [List.getElem?_set_self hl] at e
      cases e
      exact ⟨_, ha, a, us, rfl, upd_same, hG, nr, h0, hz, r⟩
    · rw [List.getElem?_set_ne q] at e
      obtain ⟨o, ho, hr⟩ := st.env_.at_ j sl e
      refine ⟨o, ho, ?_⟩
      cases sl with
      | none => trivial
      | some sl =>
        cases sl with
        | val d => exact hr
        | own ds' =>
          obtain ⟨b, ws, e1, e2, e3⟩ := hr
          have nb : b ≠ a := fun z => st.env_.apart i j q (by rw [hi]; trivial) (by rw [e]; trivial) (by rw [ha, ho, e1, z])
          exact ⟨b, ws, e1, by rw [upd_ne nb]; exact e2, e3⟩
        | obj c fs =>
          obtain ⟨b, dx, ws, e1, e2, e2', e3⟩ := hr
          have nb : b ≠ a := fun z => by rw [z, hH] at e2; cases e2
          have nd : dx ≠ a := fun z => by rw [z, hH] at e2'; cases e2'
          exact ⟨b, dx, ws, e1, by rw [upd_ne nb]; exact e2, by rw [upd_ne nd]; exact e2', e3⟩
  · have un : ∀ j, isOwn (env.set i (some (.own es)))[j]? → isOwn env[j]? := fun j h => by
      by_cases q : i = j
      · subst q; rw [hi]; trivial
      · rw [List.getElem?_set_ne q] at h; exact h
    exact st.env_.apart x y ne (un x hx) (un y hy)
/-- x = [..], a list of one's own from now on -/
def sOwn (i : Nat) (τ : Env → M S (List D)) : Env → M S Flw := fun env => do
  let ds ← τ env
  grd (ds.length ≤ sizeLine) (pure (.nx (env.set i (some (.own ds)))))
theorem ds_own {i : Nat} {tg : Expr} {es : List Expr} {τ : Env → M S (List D)} {p2 pos : Pos} (h : PA X es (tA F τ)) (hg : PG X tg (gName i)) (hs : swapsWithSole [tg] (.List es p2) pos.line X.env = pure false := by rfl) (hw : swappedStores [tg] (.List es p2) X.env = pure none := by rfl)
    (h1 : (assignEach [tg] X.env).map (·.2) = [assign tg X.env] := by rfl) : PS X (.Assign [tg] (.List es p2) pos) (tS F (sOwn i τ)) :=
  ps_mono (ps_asg (pe_lst h) hg hs hw h1) fun D σ H ⟨G, env, s, st, p⟩ => by
    refine seqA st p fun ds s1 vs G1 H1 e1 st1 r1 p1 => ?_
    obtain ⟨hl, p2⟩ := Post.grd p1
    have hz : vs.length ≤ sizeLine := by rw [r1.length]; exact hl
    refine ⟨hz, fun q nq => ?_⟩
    exact p2 _ G1 _ e1.g (st1.own i nq r1 hz)
/-- x.append(e), x a list of one's own -/
def sApp (i : Nat) (τ : Env → M S D) : Env → M S Flw := fun env => match env[i]? with
  | some (some (.own _)) => do
    let d ← τ env
    (match env[i]? with
    | some (some (.own ds)) => grd (ds.length < sizeLine) (pure (.nx (env.set i (some (.own (ds ++ [d]))))))
    | _ => stk)
  | _ => stk
theorem own_at {G H : Hp} {σ : L2.St} {env : Env} {s : S} {ds : List D} {i : Nat} (st : StG F G σ H env s) (hi : env[i]? = some (some (.own ds))) : ∃ a vs, σ[i]? = some (some (V.ref a)) ∧ H a = some (.lst vs) ∧ G a = none ∧ ¬ F.reg a ∧ F.H0 a = none ∧ vs.length ≤ sizeLine ∧ RepL F.toCc G ds vs := by
  obtain ⟨o, ho, a, vs, e1, r⟩ := st.env_.at_ i _ hi
  exact ⟨a, vs, by rw [ho, e1], r⟩
theorem ds_app {i : Nat} {o e : Expr} {τ : Env → M S D} {apos cpos pos : Pos} (ho : PE X o (tVar i)) (he : PE X e (tE F τ)) (hs : swapsWith (.Call (.Attribute o "append" apos) [e] [] cpos) none pos.line X.env = pure false := by rfl)
    (hbase : attributeBase o "append" X.env (eval o X.env) = eval o X.env := by rfl)
    (hfew : ((backTo cpos (starEach [e] X.env)).all (fun x => !x.1) && (backToKw cpos (keywordEach [] X.env)).all (fun x => x.1.isSome)
      && decide (([e] : List Expr).length + ([] : List Keyword).length + (if ([] : List Keyword).isEmpty then 0 else 1) < 30)) = true := by rfl)
    (hline : (apos.endLine == cpos.line) = true := by rfl) (hst : starEach [e] X.env = (false, eval e X.env) :: starEach [] X.env := by rfl) :
    PS X (.Expr (.Call (.Attribute o "append" apos) [e] [] cpos) pos) (tS F (sApp i τ)) :=
  ps_mono (ps_expr (pe_bm PySem.F.plainAttrs_list PySem.F.slot_list_append PySem.F.type_list_append (mt_append) ho (pa_cons he pa_nil hst) hbase hfew hline hst) hs) fun D σ H ⟨G, env, s, st, p⟩ => by
    have p : Post F G H ((match env[i]? with
      | some (some (.own _)) => do
        let d ← τ env
        (match env[i]? with
        | some (some (.own ds)) => grd (ds.length < sizeLine) (pure (.nx (env.set i (some (.own (ds ++ [d]))))))
        | _ => stk)
      | _ => stk : M S Flw) s) (FP F G D) := p
    cases hi : env[i]? with
    | none => rw [hi] at p; exact p.elim
    | some sl =>
      rw [hi] at p
      cases sl with
      | none => exact p.elim
      | some sl =>
        cases sl with
        | val _ => exact p.elim
        | obj _ _ => exact p.elim
        | own ds =>
          obtain ⟨a, vs, hσ, hH, _, _, _, _, _⟩ := own_at st hi
          refine ⟨.ref a, hσ, .inl ⟨rfl, vs, .inl (.inl hH)⟩, ?_⟩
          refine seqE st p fun d s1 v G1 H1 e1 st1 r1 p1 => ?_
          obtain ⟨a', vs1, hσ1, hH1, hG1, nr1, h01, hz1, rl1⟩ := own_at st1 hi
          rw [hσ] at hσ1
          cases hσ1
          obtain ⟨hl, p2⟩ := Post.grd p1
          have hlt : vs1.length < sizeLine := by rw [rl1.length]; exact hl
          refine ⟨a, vs1, v, rfl, rfl, hH1, hlt, ?_⟩
          exact p2 σ G1 _ e1.g (st1.put hi hσ (rl1.append (RepL.one r1)) (by rw [List.length_append]; simp only [List.length_cons, List.length_nil]; omega))
/-- x.extend(e), e a list -/
def sExt (i : Nat) (τ : Env → M S D) : Env → M S Flw := fun env => match env[i]? with
  | some (some (.own _)) => do
    let d ← τ env
    (match env[i]? with
    | some (some (.own ds)) => onLst (fun es => grd (ds.length + es.length ≤ sizeLine) (pure (.nx (env.set i (some (.own (ds ++ es))))))) d
    | _ => stk)
  | _ => stk
theorem ds_ext {i : Nat} {o e : Expr} {τ : Env → M S D} {apos cpos pos : Pos} (ho : PE X o (tVar i)) (he : PE X e (tE F τ)) (hs : swapsWith (.Call (.Attribute o "extend" apos) [e] [] cpos) none pos.line X.env = pure false := by rfl)
    (hbase : attributeBase o "extend" X.env (eval o X.env) = eval o X.env := by rfl)
    (hfew : ((backTo cpos (starEach [e] X.env)).all (fun x => !x.1) && (backToKw cpos (keywordEach [] X.env)).all (fun x => x.1.isSome)
      && decide (([e] : List Expr).length + ([] : List Keyword).length + (if ([] : List Keyword).isEmpty then 0 else 1) < 30)) = true := by rfl)
    (hline : (apos.endLine == cpos.line) = true := by rfl) (hst : starEach [e] X.env = (false, eval e X.env) :: starEach [] X.env := by rfl) :
    PS X (.Expr (.Call (.Attribute o "extend" apos) [e] [] cpos) pos) (tS F (sExt i τ)) :=
  ps_mono (ps_expr (pe_bm PySem.F.plainAttrs_list PySem.F.slot_list_extend PySem.F.type_list_extend (mt_extend) ho (pa_cons he pa_nil hst) hbase hfew hline hst) hs) fun D σ H ⟨G, env, s, st, p⟩ => by
    have p : Post F G H ((match env[i]? with
      | some (some (.own _)) => do
        let d ← τ env
        (match env[i]? with
        | some (some (.own ds)) => onLst (fun es => grd (ds.length + es.length ≤ sizeLine) (pure (.nx (env.set i (some (.own (ds ++ es))))))) d
        | _ => stk)
      | _ => stk : M S Flw) s) (FP F G D) := p
    cases hi : env[i]? with
    | none => rw [hi] at p; exact p.elim
    | some sl =>
      rw [hi] at p
      cases sl with
      | none => exact p.elim
      | some sl =>
        cases sl with
        | val _ => exact p.elim
        | obj _ _ => exact p.elim
        | own ds =>
          obtain ⟨a, vs, hσ, hH, _, _, _, _, _⟩ := own_at st hi
          refine ⟨.ref a, hσ, .inl ⟨rfl, vs, .inl (.inl hH)⟩, ?_⟩
          refine seqE st p fun d s1 v G1 H1 e1 st1 r1 p1 => ?_
          obtain ⟨a', vs1, hσ1, hH1, hG1, nr1, h01, hz1, rl1⟩ := own_at st1 hi
          rw [hσ] at hσ1
          cases hσ1
          obtain ⟨es, rfl, p1⟩ := Post.onLst p1
          obtain ⟨hl, p2⟩ := Post.grd p1
          obtain ⟨b, us, rfl, hb, hzb, rb⟩ := r1
          have hlt : vs1.length + us.length ≤ sizeLine := by rw [rl1.length, rb.length]; exact hl
          refine ⟨a, b, vs1, us, rfl, rfl, hH1, st1.gd.gh _ _ hb, hlt, ?_⟩
          exact p2 σ G1 _ e1.g (st1.put hi hσ (rl1.append rb) (by rw [List.length_append]; exact hlt))
/-- return x, x a list of one's own -/
def sRetO (i : Nat) : Env → M S Flw := fun env => match env[i]? with
  | some (some (.own ds)) => pure (.rt (.lst ds))
  | _ => stk
theorem ds_retO {i : Nat} {o : Expr} {pos : Pos} (ho : PE X o (tVar i)) : PS X (.Return (some o) pos) (tS F (sRetO i)) := ps_mono (ps_ret ho) fun D σ H ⟨G, env, s, st, p⟩ => by
  have p : Post F G H ((match env[i]? with
    | some (some (.own ds)) => pure (.rt (.lst ds))
    | _ => stk : M S Flw) s) (FP F G D) := p
  cases hi : env[i]? with
  | none => rw [hi] at p; exact p.elim
  | some sl =>
    rw [hi] at p
    cases sl with
    | none => exact p.elim
    | some sl =>
      cases sl with
      | val _ => exact p.elim
      | obj _ _ => exact p.elim
      | own ds =>
        obtain ⟨a, vs, hσ, hH, hG, nr, h0, hz, rl⟩ := own_at st hi
        have ss : Same G (upd G a (.lst vs)) := fun b o hb => by rw [upd_ne (ne_of_none hb hG)]; exact hb
        refine ⟨.ref a, hσ, p (.ref a) (upd G a (.lst vs)) H ss ⟨st.ext.g.trans ss, st.ext.fr, fun b o hb => ?_, st.ext.tr⟩ (st.gd.freeze hH nr) ⟨a, vs, rfl, upd_same, hz, rl.mono ss⟩⟩
        by_cases q : b = a
        · subst q; exact .inr (.inl h0)
        · rw [upd_ne q] at hb; exact st.ext.nw b o hb
/-! ### enumerate(list) -/
def enumL (k : Nat) : List D → List D
  | [] => []
  | d :: r => .tup [.int (k : Int), d] :: enumL (k + 1) r
theorem enumL_get : ∀ (ds : List D) (k i : Nat), (enumL k ds)[i]? = ds[i]?.map fun d => D.tup [.int ((k + i : Nat) : Int), d]
  | [], k, i => by simp [enumL]
  | d :: r, k, 0 => by simp [enumL]
  | d :: r, k, i + 1 => by
    rw [enumL, List.getElem?_cons_succ, List.getElem?_cons_succ, enumL_get r (k + 1) i]
    rw [show k + 1 + i = k + (i + 1) by omega]
theorem enumL_length : ∀ (ds : List D) (k : Nat), (enumL k ds).length = ds.length
  | [], _ => rfl
  | d :: r, k => by rw [enumL, List.length_cons, List.length_cons, enumL_length r]
theorem itd_enum {G : Hp} {a : Addr} {vs : List V} {ds : List D} (q0 : G a = some (.lst vs)) (r : RepL F.toCc G ds vs) : ItD F G (Ite F.K a) (enumL 0 ds) := fun G' H' s e g => by
  have q' : SqL F.K H' a vs := .inl (.inl (g.gh _ _ (e _ _ q0)))
  refine ⟨fun i d hd => ?_, fun i hi => ⟨vs, q', by rw [r.length]; rw [enumL_length] at hi; exact hi⟩⟩
  rw [enumL_get] at hd
  obtain ⟨d0, h0, rfl⟩ := Option.map_eq_some_iff.mp hd
  obtain ⟨v, hv, rv⟩ := r.get h0
  refine ⟨⟨vs, v, q', hv⟩, fun x H2 y => ?_⟩
  obtain ⟨T, z, rfl, hT, rfl, y⟩ := y
  have hz := y vs q'
  rw [hv] at hz
  cases hz
  obtain ⟨g2, e2⟩ := g.new hT (.tup [.int (i : Nat), v])
  refine ⟨_, e2, g2, T, [.int (i : Nat), v], rfl, SqT.upd, by show 2 ≤ sizeLine; decide, ?_⟩
  rw [Nat.zero_add]
  exact RepL.cons rfl (RepL.one (rv.mono (e.trans e2.g)))
theorem itd_enumT {G : Hp} {a : Addr} {vs : List V} {ds : List D} (q0 : SqT F.K G a vs) (r : RepL F.toCc G ds vs) : ItD F G (IteT F.K a) (enumL 0 ds) := fun G' H' s e g => by
  have q' : SqT F.K H' a vs := SqT.sub g.gh (SqT.sub e q0)
  refine ⟨fun i d hd => ?_, fun i hi => ⟨vs, q', by rw [r.length]; rw [enumL_length] at hi; exact hi⟩⟩
  rw [enumL_get] at hd
  obtain ⟨d0, h0, rfl⟩ := Option.map_eq_some_iff.mp hd
  obtain ⟨v, hv, rv⟩ := r.get h0
  refine ⟨⟨vs, v, q', hv⟩, fun x H2 y => ?_⟩
  obtain ⟨T, z, rfl, hT, rfl, y⟩ := y
  have hz := y vs q'
  rw [hv] at hz
  cases hz
  obtain ⟨g2, e2⟩ := g.new hT (.tup [.int (i : Nat), v])
  refine ⟨_, e2, g2, T, [.int (i : Nat), v], rfl, SqT.upd, by show 2 ≤ sizeLine; decide, ?_⟩
  rw [Nat.zero_add]
  exact RepL.cons rfl (RepL.one (rv.mono (e.trans e2.g)))
def iEnm (τ : Env → M S (List D)) : Env → M S (List D) := fun env => do a1 (onSeq fun ds => pure (enumL 0 ds)) (← τ env)
theorem di_enum {elts : List Expr} {kk : Nat} {tpos p pos : Pos} {e : Expr} {τ : Env → M S (List D)} (hK : X.K = F.K) (hg : Gl X "enumerate") (hm : X.mg "enumerate" = none) (ha : PA X [e] (tA F τ)) (hs : starEach [e] X.env = [(false, eval e X.env)] := by rfl) :
    PI X (.Tuple elts kk tpos) (.Call (.Name "enumerate" p) [e] [] pos) (tI F (iEnm τ)) := pi_mono (pi_enumS hg hm ha hs) fun σ H R ⟨G, env, s, st, p⟩ => by
  refine seqA st p fun ds s1 vs G1 H1 e1 st1 r1 p1 => ?_
  obtain ⟨d, rfl, p1⟩ := Post.a1 p1
  obtain ⟨v, rfl, ra⟩ := r1.r1
  cases d with
  | lst es =>
    obtain ⟨a, us, rfl, q, hz, rl⟩ := ra
    exact ⟨a, us, rfl, .inl ⟨.inl (.inl (st1.gd.gh _ _ q)), p1 _ G1 H1 e1 st1 (hK ▸ itd_enum q rl)⟩⟩
  | tup es =>
    obtain ⟨a, us, rfl, q, hz, rl⟩ := ra
    exact ⟨a, us, rfl, .inr ⟨hK ▸ SqT.sub st1.gd.gh q, p1 _ G1 H1 e1 st1 (hK ▸ itd_enumT q rl)⟩⟩
  | _ => exact p1.elim
/-! ### list(range(e)) -/
/-! ### an instance called -/
def cao (c : Str) (sem : List D → M S D) (n : Nat) (τ : Env → M S D) (α : Env → M S (List D)) : Env → M S D := fun env => do
  let o ← τ env
  onIns (fun c' _ => grd (c' = c) (do
    let ds ← α env
    grd (ds.length + 1 = n) (sem (o :: ds)))) o
theorem de_callO {c : Str} {sem : List D → M S D} {k n : Nat} {C g : Addr} {fd : FuncData} {ps : List Str} {fe e : Expr} {es : List Expr} {τ : Env → M S D} {α : Env → M S (List D)} {pos : Pos} (hC : F.cad c = C) (hf : PE X fe (tE F τ)) (cl : StX.CallO X.K C g)
    (G : FnOk X.prog X.w X.K X.mg X.base (L2.CX X.prog X.w) k g fd ps (spD F.toCc n sem)) (tk : Takes X F.wish) (hr : Room k X.A) (hb : Binds X.K fd ps []) (ha : PA X (e :: es) (tA F α))
    (ht : eval (.Call fe (e :: es) [] pos) X.env = (do callWith pos (← eval fe X.env) [] (backTo pos (starEach (e :: es) X.env)) (backToKw pos (keywordEach [] X.env))) := by rfl)
    (he : starEach (e :: es) X.env = (false, eval e X.env) :: starEach es X.env := by rfl) (hpl : (backTo pos (starEach es X.env)).any (·.1) = false := by rfl) :
    PE X (.Call fe (e :: es) [] pos) (tE F (cao c sem n τ α)) :=
  pe_mono (StX.pe_callO hf cl ((G.raw hb .nil).imp (sp' := spD F.toCc n sem) fun vs H Q E q => by rw [List.append_nil]; exact q) hr (passes_F tk) ha ht he hpl) fun σ H Q ⟨G, env, s, st, p⟩ => by
    refine seqE st p fun d s1 v G1 H1 e1 st1 r1 p1 => ?_
    obtain ⟨c', fs, rfl, p3⟩ := Post.onIns p1
    obtain ⟨hc, p4⟩ := Post.grd p3
    obtain ⟨a, dx, vs, rfl, ha', hdx, rf⟩ := id r1
    refine ⟨a, rfl, ?_⟩
    refine seqA st1 p4 fun ds s2 us G2 H2 e2 st2 r2 p2 => ?_
    obtain ⟨hl, p2⟩ := Post.grd p2
    refine ⟨.inr ⟨dx, vs, by rw [← hC, ← hc]; exact st2.gd.gh _ _ (e2.g _ _ ha')⟩, ?_⟩
    exact spD_of (by rw [List.length_cons]; exact hl) st2 (RepL.cons (r1.mono e2.g) r2) (p2.K1 (e1.trans e2))
/-! ### no claim of a def -/
theorem fn_bot {P : Program} {w : World} {K : PySem.W.Frag} {mg : Str → Option Value} {base : Heap} {C : Cc S} {f : Addr} {fd : FuncData} {ps : List Str} {n : Nat} (hn : ps.length = n) : FnOk P w K mg base (L2.CX P w) 0 f fd ps (spD C n fun _ _ => .stk) :=
  ⟨spD_len hn, fun A outer s H args us vs Q E hr e0 hb hv h => by
    obtain ⟨_, _, _, _, _, _, p⟩ := h
    exact p.elim⟩
/-! ### an __init__ with defaults -/
theorem fn_initD {P : Program} {w : World} {K : PySem.W.Frag} {mg : Str → Option Value} {base : Heap} {x qual : Str} {params : Arguments} {body : List Stmt} {scope : Scope} {dvs : List V} {kws : List (Str × V)} {f : Addr} {fd : FuncData} {N ps : List Str} {k n : Nat} {c : Str}
    {C : Cc S} {rd : Env → M S Flw} {sem : List D → M S (List (Str × D))} (Fn : FunD K x qual params body scope dvs kws f fd) (Sc : FnScope N ps scope) (hn : ps.length = n + 1) (hsem : RfnI sem (runI rd c N))
    (hb : ∀ (cdv : Value) (A : Around) (outer : List PySem.Env) (s : Shared) (H G : Hp) (xx : Addr) (E : XK), Room k (A.deeper (envOfC qual scope s.heap.objs.size f cdv)) →
      PSs (cxOf (L2.CX P w) P w K mg base N qual scope f cdv A outer s H E) body (tS (fxI C G H xx E) rd)) : FnOk P w K mg base (L2.CX P w) (k + 1) f fd ps (spI C c n sem) := by
  refine Fn.ok Sc (fun _ _ _ _ q => q.1.trans hn.symm) fun cdv A outer s H vs Q E hr h => ?_
  obtain ⟨hl, xx, dx, vs', G, ds, st, rfl, h1, h2, ne, g1, g2, n1, n2, g, r, p⟩ := spI_imp hsem vs H Q E h
  refine ⟨_, hb cdv A outer s H G xx E hr, G, startI c N ds, st, ⟨Ext.refl _ _ _, g, repEnv_startI h1 h2 g1 g2 n1 n2 r⟩, ?_⟩
  unfold runI at p
  cases q : rd (startI c N ds) st with
  | stk => rw [q] at p; exact p
  | err e s' => rw [q] at p; exact fun cls dd σ' G' H' _ ex gd rx => p cls dd G' H' ex gd rx
  | ok fl s' =>
    rw [q] at p
    match fl, p with
    | .nx (some (.obj c' fs) :: env), p =>
      intro σ' G' H' _ st'
      by_cases hc : c' = c
      · subst hc
        dsimp only at p
        rw [if_pos rfl] at p
        obtain ⟨o, ho, a, dx', fv, ea, ha, hda, gna, gnd, nra, nrd, r0, ⟨C', fv0, h0⟩, rf⟩ := st'.env_.at_ 0 _ rfl
        have eax : a = xx := r0.elim (fun z => absurd z nra) id
        subst eax
        have hdx : H' dx = some (.own a) := st'.ext.fr dx _ h2 (fun z => z.elim n2 ne) (by intro _ h; cases h)
        have gdx : G' dx = none := st'.ext.un h2 g2 (fun z => z.elim n2 ne)
        -- its dict is the one it had
        exact p G' H' fv st'.ext st'.gd (by
          have : dx' = dx := by
            have z : H a = some (.ins C' dx' fv0) := h0
            rw [h1] at z; cases z; rfl
          rw [← this]; exact ha) hdx gna gdx rf
      · dsimp only at p
        rw [if_neg hc] at p
        exact p.elim
    | .nx [], p => exact p.elim
    | .nx (none :: _), p => exact p.elim
    | .nx (some (.val _) :: _), p => exact p.elim
    | .nx (some (.own _) :: _), p => exact p.elim
    | .rt d, p => exact p.elim
    | .bk e, p => exact p.elim
    | .ct e, p => exact p.elim
end DL
set_option Elab.async false
set_option linter.all false
set_option maxRecDepth 100000
set_option maxHeartbeats 4000000
set_option autoImplicit false
/-! printed by tools/k10.py: the readings of scripts.py as k10 reaches it -/
namespace DL
open PySem PySem.Spec PyProof.Rows L2 Rh
abbrev N_is_step_number : List Str := ["thing"]
def rd_is_step_number {S : Type} (cs : List Str) : Env → M S Flw :=
  (sRet (andV (cal (sem_is_number cs) [] 1 (aCons (rVar 0) aNil)) (chn leD leD (negD (rC (.int 100))) (rVar 0) (rC (.int 100)))))
def sem_is_step_number {S : Type} (cs : List Str) : List D → M S D := runB (rd_is_step_number cs) N_is_step_number
abbrev N_is_plain_step : List Str := ["thing"]
def rd_is_plain_step {S : Type} (cs : List Str) : Env → M S Flw :=
  (sSeq (sIf (orT (notT (asT (isi (tb_kit_ty_tuple cs) (rVar 0)))) (orT (asT (bin (eqD true) (bcl lenD (aCons (rVar 0) aNil)) (rC (.int 2)))) (notT (asT (isi (tb_kit_ty_str cs) (bin ixD (rVar 0) (rC (.int 0)))))))) (sRet (rC (.bl false))) sNx) (sSeq (sIf (asT (bin (inD false) (bin ixD (rVar 0) (rC (.int 0))) (tupD (aCons (rC (.str "keep")) (aCons (rC (.str "strike")) aNil))))) (sRet (isi (tb_kit_own_Rhythm cs) (bin ixD (rVar 0) (rC (.int 1))))) sNx) (sRet (andV (bin (inD false) (bin ixD (rVar 0) (rC (.int 0))) (tupD (aCons (rC (.str "shift")) (aCons (rC (.str "from")) (aCons (rC (.str "until")) aNil))))) (cal (sem_is_step_number cs) [] 1 (aCons (bin ixD (rVar 0) (rC (.int 1))) aNil))))))
def sem_is_plain_step {S : Type} (cs : List Str) : List D → M S D := runB (rd_is_plain_step cs) N_is_plain_step
abbrev N_is_add : List Str := ["thing"]
def rd_is_add {S : Type} (cs : List Str) : Env → M S Flw :=
  (sSeq (sIf (orT (notT (asT (isi (tb_kit_ty_tuple cs) (rVar 0)))) (orT (asT (bin (eqD true) (bcl lenD (aCons (rVar 0) aNil)) (rC (.int 4)))) (orT (notT (asT (isi (tb_kit_ty_str cs) (bin ixD (rVar 0) (rC (.int 0)))))) (asT (bin (eqD true) (bin ixD (rVar 0) (rC (.int 0))) (rC (.str "add"))))))) (sRet (rC (.bl false))) sNx) (sRet (andV (isi (tb_kit_own_Rhythm cs) (bin ixD (rVar 0) (rC (.int 1)))) (andV (cal (sem_is_step_number cs) [] 1 (aCons (bin ixD (rVar 0) (rC (.int 2))) aNil)) (orV (bin (isND false) (bin ixD (rVar 0) (rC (.int 3))) (rC .non)) (cal (sem_is_step_number cs) [] 1 (aCons (bin ixD (rVar 0) (rC (.int 3))) aNil)))))))
def sem_is_add {S : Type} (cs : List Str) : List D → M S D := runB (rd_is_add cs) N_is_add
abbrev N_is_since : List Str := ["thing", "step"]
def rd_is_since {S : Type} (cs : List Str) : Env → M S Flw :=
  (sSeq (sIf (orT (notT (asT (isi (tb_kit_ty_tuple cs) (rVar 0)))) (orT (asT (bin (eqD true) (bcl lenD (aCons (rVar 0) aNil)) (rC (.int 3)))) (orT (notT (asT (isi (tb_kit_ty_str cs) (bin ixD (rVar 0) (rC (.int 0)))))) (asT (bin (eqD true) (bin ixD (rVar 0) (rC (.int 0))) (rC (.str "since"))))))) (sRet (rC (.bl false))) sNx) (sSeq (sIf (orT (notT (asT (cal (sem_is_step_number cs) [] 1 (aCons (bin ixD (rVar 0) (rC (.int 1))) aNil)))) (orT (notT (asT (isi (tb_kit_ty_tuple cs) (bin ixD (rVar 0) (rC (.int 2)))))) (asT (bin (eqD false) (bcl lenD (aCons (bin ixD (rVar 0) (rC (.int 2))) aNil)) (rC (.int 0)))))) (sRet (rC (.bl false))) sNx) (sRet (bcl (allD false) (aCons (cmp [1] (iSq (bin ixD (rVar 0) (rC (.int 2)))) (gNm 1) tYs (cal (sem_is_plain_step cs) [] 1 (aCons (rVar 1) aNil))) aNil)))))
def sem_is_since {S : Type} (cs : List Str) : List D → M S D := runB (rd_is_since cs) N_is_since
abbrev N_is_step : List Str := ["thing"]
def rd_is_step {S : Type} (cs : List Str) : Env → M S Flw :=
  (sRet (orV (cal (sem_is_plain_step cs) [] 1 (aCons (rVar 0) aNil)) (orV (cal (sem_is_add cs) [] 1 (aCons (rVar 0) aNil)) (cal (sem_is_since cs) [] 1 (aCons (rVar 0) aNil)))))
def sem_is_step {S : Type} (cs : List Str) : List D → M S D := runB (rd_is_step cs) N_is_step
abbrev N_flat : List Str := ["steps", "found", "step"]
def rd_flat {S : Type} : Env → M S Flw :=
  (sSeq (sOwn 1 aNil) (sSeq (sFor (iSq (rVar 0)) (gNm 2) (sSeq (sApp 1 (rVar 2)) (sIf (asT (bin (eqD false) (bin ixD (rVar 2) (rC (.int 0))) (rC (.str "since")))) (sExt 1 (bcl listD (aCons (bin ixD (rVar 2) (rC (.int 2))) aNil))) sNx))) (sRetO 1)))
def sem_flat {S : Type} : List D → M S D := runB (rd_flat) N_flat
abbrev N_common_round : List Str := ["rhythms", "found", "rhythm"]
def rd_common_round {S : Type} : Env → M S Flw :=
  (sSeq (sAsg (rC (.int 1)) (gNm 1)) (sSeq (sFor (iSq (rVar 0)) (gNm 2) (sAsg (cal sem_common [] 2 (aCons (rVar 1) (aCons (prp "Rhythm" sem_Rhythm_size (rVar 2)) aNil))) (gNm 1))) (sRet (rVar 1))))
def sem_common_round {S : Type} : List D → M S D := runB (rd_common_round) N_common_round
abbrev N_round_of : List Str := ["steps", "step"]
def rd_round_of {S : Type} : Env → M S Flw :=
  (sRet (cal sem_common_round [] 1 (aCons (cmp [1] (iSq (cal sem_flat [] 1 (aCons (rVar 0) aNil))) (gNm 1) (asT (bin (inD false) (bin ixD (rVar 1) (rC (.int 0))) (tupD (aCons (rC (.str "keep")) (aCons (rC (.str "strike")) (aCons (rC (.str "add")) aNil)))))) (bin ixD (rVar 1) (rC (.int 1)))) aNil)))
def sem_round_of {S : Type} : List D → M S D := runB (rd_round_of) N_round_of
abbrev N_need_few : List Str := ["steps"]
def rd_need_few {S : Type} : Env → M S Flw :=
  (sSeq (sIf (asT (bin gtD (bcl lenD (aCons (cal sem_flat [] 1 (aCons (rVar 0) aNil)) aNil)) (rC (.int 12)))) sNo sNx) (sIf (asT (bin gtD (cal sem_round_of [] 1 (aCons (rVar 0) aNil)) (rC (.int 84)))) sNo sNx))
def sem_need_few {S : Type} : List D → M S D := runB (rd_need_few) N_need_few
abbrev N_Script___init__ : List Str := ["self", "steps", "at", "step"]
def rd_Script___init__ {S : Type} (cs : List Str) : Env → M S Flw :=
  (sSeq (sIf (notT (asT (cal (sem_is_list cs) [] 1 (aCons (rVar 1) aNil)))) sNo sNx) (sSeq (sFor (iEnm (aCons (rVar 1) aNil)) (gTp 2 (gsCons (gNm 2) (gsCons (gNm 3) gsNil))) (sIf (notT (asT (cal (sem_is_step cs) [] 1 (aCons (rVar 3) aNil)))) sNo sNx)) (sSeq (sDrop (cal sem_need_few [] 1 (aCons (rVar 1) aNil))) (sFldO 0 "Script" "own_steps" (bcl tupleD (aCons (rVar 1) aNil))))))
def sem_Script___init__ {S : Type} (cs : List Str) : List D → M S (List (Str × D)) := runI (rd_Script___init__ cs) "Script" N_Script___init__
def sem_behind_all0 {S : Type} : List D → M S D := fun _ _ => .stk
abbrev N_holds : List Str := ["step", "day", "word"]
def rd_holds {S : Type} (cs : List Str) : Env → M S Flw :=
  (sSeq (sAsg (bin ixD (rVar 0) (rC (.int 0))) (gNm 2)) (sSeq (sIf (asT (bin (eqD false) (rVar 2) (rC (.str "keep")))) (sRet (bin (orD (inOwn false "Rhythm" (sem_Rhythm___contains__ cs)) (inD false) fun _ e => isIns e) (rVar 1) (bin ixD (rVar 0) (rC (.int 1))))) sNx) (sSeq (sIf (asT (bin (eqD false) (rVar 2) (rC (.str "strike")))) (sRet (bin (orD (inOwn true "Rhythm" (sem_Rhythm___contains__ cs)) (inD true) fun _ e => isIns e) (rVar 1) (bin ixD (rVar 0) (rC (.int 1))))) sNx) (sRet (iteE (asT (bin (eqD false) (rVar 2) (rC (.str "from")))) (bin geD (rVar 1) (bin ixD (rVar 0) (rC (.int 1)))) (bin leD (rVar 1) (bin ixD (rVar 0) (rC (.int 1)))))))))
def sem_holds {S : Type} (cs : List Str) : List D → M S D := runB (rd_holds cs) N_holds
abbrev N_behind1 : List Str := ["step", "day"]
def rd_behind1 {S : Type} (cs : List Str) : Env → M S Flw :=
  (sSeq (sIf (asT (bin (eqD false) (bin ixD (rVar 0) (rC (.int 0))) (rC (.str "shift")))) (sRet (bin addD (rVar 1) (bin ixD (rVar 0) (rC (.int 1))))) sNx) (sSeq (sIf (asT (bin (eqD false) (bin ixD (rVar 0) (rC (.int 0))) (rC (.str "since")))) (sRet (iteE (asT (bin geD (rVar 1) (bin ixD (rVar 0) (rC (.int 1))))) (cal sem_behind_all0 [] 2 (aCons (bin ixD (rVar 0) (rC (.int 2))) (aCons (rVar 1) aNil))) (rVar 1))) sNx) (sRet (iteE (orT (asT (bin (eqD false) (bin ixD (rVar 0) (rC (.int 0))) (rC (.str "add")))) (asT (cal (sem_holds cs) [] 2 (aCons (rVar 0) (aCons (rVar 1) aNil))))) (rVar 1) (rC .non)))))
def sem_behind1 {S : Type} (cs : List Str) : List D → M S D := runB (rd_behind1 cs) N_behind1
abbrev N_behind_all1 : List Str := ["steps", "day", "step"]
def rd_behind_all1 {S : Type} (cs : List Str) : Env → M S Flw :=
  (sSeq (sFor (iSq (rVar 0)) (gNm 2) (sIf (asT (bin (isND true) (rVar 1) (rC .non))) (sAsg (cal (sem_behind1 cs) [] 2 (aCons (rVar 2) (aCons (rVar 1) aNil))) (gNm 1)) sNx)) (sRet (rVar 1)))
def sem_behind_all1 {S : Type} (cs : List Str) : List D → M S D := runB (rd_behind_all1 cs) N_behind_all1
abbrev N_behind2 : List Str := ["step", "day"]
def rd_behind2 {S : Type} (cs : List Str) : Env → M S Flw :=
  (sSeq (sIf (asT (bin (eqD false) (bin ixD (rVar 0) (rC (.int 0))) (rC (.str "shift")))) (sRet (bin addD (rVar 1) (bin ixD (rVar 0) (rC (.int 1))))) sNx) (sSeq (sIf (asT (bin (eqD false) (bin ixD (rVar 0) (rC (.int 0))) (rC (.str "since")))) (sRet (iteE (asT (bin geD (rVar 1) (bin ixD (rVar 0) (rC (.int 1))))) (cal (sem_behind_all1 cs) [] 2 (aCons (bin ixD (rVar 0) (rC (.int 2))) (aCons (rVar 1) aNil))) (rVar 1))) sNx) (sRet (iteE (orT (asT (bin (eqD false) (bin ixD (rVar 0) (rC (.int 0))) (rC (.str "add")))) (asT (cal (sem_holds cs) [] 2 (aCons (rVar 0) (aCons (rVar 1) aNil))))) (rVar 1) (rC .non)))))
def sem_behind2 {S : Type} (cs : List Str) : List D → M S D := runB (rd_behind2 cs) N_behind2
abbrev N_behind_all2 : List Str := ["steps", "day", "step"]
def rd_behind_all2 {S : Type} (cs : List Str) : Env → M S Flw :=
  (sSeq (sFor (iSq (rVar 0)) (gNm 2) (sIf (asT (bin (isND true) (rVar 1) (rC .non))) (sAsg (cal (sem_behind2 cs) [] 2 (aCons (rVar 2) (aCons (rVar 1) aNil))) (gNm 1)) sNx)) (sRet (rVar 1)))
def sem_behind_all2 {S : Type} (cs : List Str) : List D → M S D := runB (rd_behind_all2 cs) N_behind_all2
abbrev N_Script___call__ : List Str := ["self", "day"]
def rd_Script___call__ {S : Type} (cs : List Str) : Env → M S Flw :=
  (sSeq (sIf (orT (notT (asT (cal (sem_is_number cs) [] 1 (aCons (rVar 1) aNil)))) (asT (bin ltD (rVar 1) (rC (.int 0))))) sNo sNx) (sRet (cal (sem_behind_all2 cs) [] 2 (aCons (fldC "Script" "own_steps" (rVar 0)) (aCons (rVar 1) aNil)))))
def sem_Script___call__ {S : Type} (cs : List Str) : List D → M S D := runB (rd_Script___call__ cs) N_Script___call__
end DL
set_option Elab.async false
set_option linter.all false
set_option maxRecDepth 100000
set_option maxHeartbeats 4000000
set_option autoImplicit false
/-! what scripts.py is worth: steps, fates, rounds -/
namespace DL
open PySem PySem.Spec PyProof.Rows L2 Rh
/-- a plain step -/
inductive Pl where
  | shift (n : Int) | frm (n : Int) | unt (n : Int) | keep (p : Int) (rs : List Int) | strike (p : Int) (rs : List Int)
inductive Stp where
  | pl (x : Pl) | add (p : Int) (rs : List Int) (a : Int) (b : Option Int) | since (n : Int) (xs : List Pl)
def optD : Option Int → D
  | none => .non
  | some i => .int i
def Pl.D : Pl → D
  | .shift n => .tup [.str "shift", .int n]
  | .frm n => .tup [.str "from", .int n]
  | .unt n => .tup [.str "until", .int n]
  | .keep p rs => .tup [.str "keep", rhD p rs]
  | .strike p rs => .tup [.str "strike", rhD p rs]
def Stp.D : Stp → D
  | .pl x => x.D
  | .add p rs a b => .tup [.str "add", rhD p rs, .int a, optD b]
  | .since n xs => .tup [.str "since", .int n, .tup (xs.map Pl.D)]
def Pl.go : Pl → Int → Option Int
  | .shift n, d => some (d + n)
  | .frm n, d => if n ≤ d then some d else none
  | .unt n, d => if d ≤ n then some d else none
  | .keep p rs, d => if d % p ∈ rs then some d else none
  | .strike p rs, d => if d % p ∈ rs then none else some d
def gos {T : Type} (g : T → Int → Option Int) : List T → Option Int → Option Int
  | [], o => o
  | x :: xs, o => gos g xs (o.bind (g x))
abbrev goPs : List Pl → Option Int → Option Int := gos Pl.go
def Stp.go : Stp → Int → Option Int
  | .pl x, d => x.go d
  | .add _ _ _ _, d => some d
  | .since n xs, d => if n ≤ d then goPs xs (some d) else some d
abbrev fate : List Stp → Option Int → Option Int := gos Stp.go
/-- rhythms of a step are as they may be -/
def Pl.rd : Pl → Prop
  | .keep p _ => 0 < p
  | .strike p _ => 0 < p
  | _ => True
def Stp.rd : Stp → Prop
  | .pl x => x.rd
  | .add _ _ _ _ => True
  | .since _ xs => ∀ x ∈ xs, x.rd
/-- the words of the steps -/
def wds : List Str := ["shift", "keep", "strike", "from", "until", "add", "since"]
theorem wds_ok : ∀ a ∈ wds, SeqAt.shaped (.str a) = true := by decide +kernel
section
variable {S : Type} {s : S} {cs : List Str}
theorem eqD_wd {neg : Bool} {a b : Str} (ha : a ∈ wds) (hb : b ∈ wds) : (eqD neg (.str a) (.str b) : M S D) s = .ok (.bl (if neg then !decide (a = b) else decide (a = b))) s := by
  have e : eqP (.str a) (.str b) = some (decide (a = b)) := by
    show (if SeqAt.shaped (.str a) = true ∧ SeqAt.shaped (.str b) = true then some (PyData.eqv (.str a) (.str b)) else none) = _
    rw [if_pos ⟨wds_ok a ha, wds_ok b hb⟩]
    simp only [PyData.eqv]
    by_cases h : a = b
    · simp [h]
    · simp [h]
  unfold eqD; rw [e]; rfl
theorem ix2_0 {a b : D} : (ixD (.tup [a, b]) (.int 0) : M S D) s = .ok a s := rfl
theorem ix2_1 {a b : D} : (ixD (.tup [a, b]) (.int 1) : M S D) s = .ok b s := rfl
theorem ix3_0 {a b c : D} : (ixD (.tup [a, b, c]) (.int 0) : M S D) s = .ok a s := rfl
theorem ix3_1 {a b c : D} : (ixD (.tup [a, b, c]) (.int 1) : M S D) s = .ok b s := rfl
theorem ix3_2 {a b c : D} : (ixD (.tup [a, b, c]) (.int 2) : M S D) s = .ok c s := rfl
theorem ix4_0 {a b c d : D} : (ixD (.tup [a, b, c, d]) (.int 0) : M S D) s = .ok a s := rfl
theorem ix4_1 {a b c d : D} : (ixD (.tup [a, b, c, d]) (.int 1) : M S D) s = .ok b s := rfl
theorem ix4_2 {a b c d : D} : (ixD (.tup [a, b, c, d]) (.int 2) : M S D) s = .ok c s := rfl
theorem ix4_3 {a b c d : D} : (ixD (.tup [a, b, c, d]) (.int 3) : M S D) s = .ok d s := rfl
theorem inRh_eq (p : Int) (rs : List Int) (d : Int) (neg : Bool) (hp : 0 < p) : (inOwn neg "Rhythm" (sem_Rhythm___contains__ cs) (.int d) (rhD p rs) : M S D) s = .ok (.bl (if neg then !decide (d % p ∈ rs) else decide (d % p ∈ rs))) s := by
  have e : sem_Rhythm___contains__ cs [rhD p rs, .int d] s = .ok (.bl (decide (d % p ∈ rs))) s := by
    show onRh _ (rhD p rs) s = _
    rw [onRh_run, grd_run, if_pos ⟨hp, rfl⟩]; rfl
  show onIns _ (.ins "Rhythm" _) s = _
  rw [onIns_run, grd_run, if_pos rfl]
  show (sem_Rhythm___contains__ cs [rhD p rs, .int d] s).bind _ = _
  rw [e]; rfl
theorem orD_rh (f g : D → D → M S D) (d : D) (p : Int) (rs : List Int) : orD f g (fun _ e => isIns e) d (rhD p rs) = f d (rhD p rs) := rfl
theorem holds_pl (x : Pl) (d : Int) (h : x.rd) (hs : ∀ n, x ≠ .shift n) : sem_holds cs [x.D, .int d] s = .ok (.bl (x.go d).isSome) s := by
  cases x with
  | shift n => exact absurd rfl (hs n)
  | frm n =>
    have e : sem_holds cs [.tup [.str "from", .int n], .int d] s = .ok (.bl (decide (d ≥ n))) s := by kernel_rfl
    refine e.trans ?_
    simp only [Pl.go]
    split <;> rename_i q <;> simp [q] <;> omega
  | unt n =>
    have e : sem_holds cs [.tup [.str "until", .int n], .int d] s = .ok (.bl (decide (d ≤ n))) s := by kernel_rfl
    refine e.trans ?_
    simp only [Pl.go]
    split <;> rename_i q <;> simp [q]
  | keep p rs =>
    simp +decide only [sem_holds, runB, rd_holds, startE, List.map, List.cons_append, List.nil_append, List.append_nil, sSeq_run, sIf_run, asT_run, bin_run, rVar_zero, rVar_succ, rC_run, Res.bind_ok, ix2_0, ix2_1, eqD_wd, if_false, if_true, sNx_run, sRet_run, iteE_run, orT_run, cal_run, aCons_run, aNil_run, List.length, Pl.D, sAsg_run, gNm_run, List.set, N_holds, List.replicate, orD_rh, inRh_eq p rs d _ h, Nat.reduceSub]
    simp only [Pl.go]
    split <;> rename_i q <;> simp [q]
  | strike p rs =>
    simp +decide only [sem_holds, runB, rd_holds, startE, List.map, List.cons_append, List.nil_append, List.append_nil, sSeq_run, sIf_run, asT_run, bin_run, rVar_zero, rVar_succ, rC_run, Res.bind_ok, ix2_0, ix2_1, eqD_wd, if_false, if_true, sNx_run, sRet_run, iteE_run, orT_run, cal_run, aCons_run, aNil_run, List.length, Pl.D, sAsg_run, gNm_run, List.set, N_holds, List.replicate, orD_rh, inRh_eq p rs d _ h, Nat.reduceSub]
    simp only [Pl.go]
    split <;> rename_i q <;> simp [q]
theorem behind1_pl (x : Pl) (d : Int) (h : x.rd) : sem_behind1 cs [x.D, .int d] s = .ok (optD (x.go d)) s := by
  by_cases hs : ∃ n, x = .shift n
  · obtain ⟨n, rfl⟩ := hs
    show sem_behind1 cs [.tup [.str "shift", .int n], .int d] s = .ok (.int (d + n)) s
    kernel_rfl
  · have e := holds_pl (cs := cs) (s := s) x d h fun n z => hs ⟨n, z⟩
    have fin : ∀ b : Bool, (if b then (rVar 1 : Env → M S D) [some (.val x.D), some (.val (.int d))] s else (rC .non : Env → M S D) [some (.val x.D), some (.val (.int d))] s) = .ok (if b then .int d else .non) s := fun b => by cases b <;> rfl
    have go : ∀ o : Option Int, o = x.go d → o = none ∨ o = some d := fun o ho => by
      subst ho
      cases x with
      | shift n => exact absurd ⟨n, rfl⟩ hs
      | _ => simp only [Pl.go]; split <;> simp
    cases x with
    | shift n => exact absurd ⟨n, rfl⟩ hs
    | _ =>
      simp only [Pl.D] at e
      simp +decide only [sem_behind1, runB, rd_behind1, startE, List.map, List.cons_append, List.nil_append, List.append_nil, sSeq_run, sIf_run, asT_run, bin_run, rVar_zero, rVar_succ, rC_run, Res.bind_ok, ix2_0, ix2_1, eqD_wd, if_false, if_true, sNx_run, sRet_run, iteE_run, orT_run, cal_run, aCons_run, aNil_run, List.length, Pl.D, List.replicate, Nat.reduceSub, e]
      rcases go _ rfl with q | q <;> rw [q] <;> rfl
theorem runB_rt {rd : Env → M S Flw} {N : List Str} {ds : List D} {d : D} {s' : S} (h : rd (startE N ds) s = .ok (.rt d) s') : runB rd N ds s = .ok d s' := by unfold runB; rw [h]
theorem gos_none {T : Type} (g : T → Int → Option Int) : ∀ xs, gos g xs none = none
  | [] => rfl
  | _ :: xs => gos_none g xs
theorem forL_gos {T : Type} {sem : List D → M S D} (f : T → D) (g : T → Int → Option Int) {a : Option Slot} : ∀ (xs : List T) (_ : ∀ x ∈ xs, ∀ d, sem [f x, .int d] s = .ok (optD (g x d)) s) (o : Option Int) (e2 : Option Slot), ∃ e2',
    forL (gNm 2) (sIf (asT (bin (isND true) (rVar 1) (rC .non))) (sAsg (cal sem [] 2 (aCons (rVar 2) (aCons (rVar 1) aNil))) (gNm 1)) sNx) (xs.map f) [a, some (.val (optD o)), e2] s = .ok (.nx [a, some (.val (optD (gos g xs o))), e2']) s
  | [], _, o, e2 => ⟨e2, rfl⟩
  | x :: xs, h, o, e2 => by
    obtain ⟨e2', ih⟩ := forL_gos f g xs (fun y hy => h y (List.mem_cons_of_mem _ hy)) (o.bind (g x)) (some (.val (f x)))
    refine ⟨e2', ?_⟩
    have key : (sIf (asT (bin (isND true) (rVar 1) (rC .non))) (sAsg (cal sem [] 2 (aCons (rVar 2) (aCons (rVar 1) aNil))) (gNm 1)) sNx : Env → M S Flw) [a, some (.val (optD o)), some (.val (f x))] s = .ok (.nx [a, some (.val (optD (o.bind (g x)))), some (.val (f x))]) s := by
      cases o with
      | none => rfl
      | some d =>
        show ((sem [f x, .int d] s).bind fun r s' => _) = _
        rw [h x (List.mem_cons_self ..) d]; rfl
    show ((sIf (asT (bin (isND true) (rVar 1) (rC .non))) (sAsg (cal sem [] 2 (aCons (rVar 2) (aCons (rVar 1) aNil))) (gNm 1)) sNx : Env → M S Flw) [a, some (.val (optD o)), some (.val (f x))] s).bind _ = _
    rw [key]; exact ih
theorem behind_all1_ok (xs : List Pl) (h : ∀ x ∈ xs, x.rd) (d : Int) : sem_behind_all1 cs [.tup (xs.map Pl.D), .int d] s = .ok (optD (goPs xs (some d))) s := by
  obtain ⟨e2, q⟩ := forL_gos (s := s) (sem := sem_behind1 cs) (a := some (.val (.tup (xs.map Pl.D)))) Pl.D Pl.go xs (fun x hx d => behind1_pl x d (h x hx)) (some d) none
  refine runB_rt ?_
  rw [rd_behind_all1, sSeq_run]
  show ((forL _ _ (xs.map Pl.D) [some (.val (.tup (xs.map Pl.D))), some (.val (optD (some d))), none] s)).bind _ = _
  rw [q]; rfl
theorem behind2_ok (x : Stp) (d : Int) (h : x.rd) : sem_behind2 cs [x.D, .int d] s = .ok (optD (x.go d)) s := by
  cases x with
  | pl x =>
    have e1 : ∀ sb : List D → M S D, runB (sSeq (sIf (asT (bin (eqD false) (bin ixD (rVar 0) (rC (.int 0))) (rC (.str "shift")))) (sRet (bin addD (rVar 1) (bin ixD (rVar 0) (rC (.int 1))))) sNx) (sSeq (sIf (asT (bin (eqD false) (bin ixD (rVar 0) (rC (.int 0))) (rC (.str "since")))) (sRet (iteE (asT (bin geD (rVar 1) (bin ixD (rVar 0) (rC (.int 1))))) (cal sb [] 2 (aCons (bin ixD (rVar 0) (rC (.int 2))) (aCons (rVar 1) aNil))) (rVar 1))) sNx) (sRet (iteE (orT (asT (bin (eqD false) (bin ixD (rVar 0) (rC (.int 0))) (rC (.str "add")))) (asT (cal (sem_holds cs) [] 2 (aCons (rVar 0) (aCons (rVar 1) aNil))))) (rVar 1) (rC .non))))) N_behind2 [x.D, .int d] s = .ok (optD (x.go d)) s := fun sb => by
      refine Eq.trans ?_ (behind1_pl (cs := cs) (s := s) x d h)
      cases x <;> simp +decide only [sem_behind1, rd_behind1, sSeq_run, sIf_run, asT_run, bin_run, rVar_zero, rVar_succ, rC_run, Res.bind_ok, eqD_wd, if_false, if_true, sNx_run, sRet_run, iteE_run, orT_run, andT_run, notT_run, andV_run, orV_run, cal_run, aCons_run, aNil_run, List.length, List.replicate, Nat.reduceSub, List.map, List.cons_append, List.nil_append, List.append_nil, startE, runB, ix2_0, ix2_1, Pl.D, addD_int]
    exact e1 _
  | add p rs a b =>
    show sem_behind2 cs [.tup [.str "add", rhD p rs, .int a, optD b], .int d] s = .ok (.int d) s
    kernel_rfl
  | since n xs =>
    have e := behind_all1_ok (cs := cs) (s := s) xs h d
    simp +decide only [sem_behind2, rd_behind2, sSeq_run, sIf_run, asT_run, bin_run, rVar_zero, rVar_succ, rC_run, Res.bind_ok, eqD_wd, if_false, if_true, sNx_run, sRet_run, iteE_run, orT_run, andT_run, notT_run, andV_run, orV_run, cal_run, aCons_run, aNil_run, List.length, List.replicate, Nat.reduceSub, List.map, List.cons_append, List.nil_append, List.append_nil, startE, runB, ix3_0, ix3_1, ix3_2, Stp.D, e, geD, intOp0_run]
    simp only [Stp.go]
    by_cases q : n ≤ d
    · simp [q, e]
    · simp [q, optD]
theorem behind_all2_ok (xs : List Stp) (h : ∀ x ∈ xs, x.rd) (d : Int) : sem_behind_all2 cs [.tup (xs.map Stp.D), .int d] s = .ok (optD (fate xs (some d))) s := by
  obtain ⟨e2, q⟩ := forL_gos (s := s) (sem := sem_behind2 cs) (a := some (.val (.tup (xs.map Stp.D)))) Stp.D Stp.go xs (fun x hx d => behind2_ok x d (h x hx)) (some d) none
  refine runB_rt ?_
  rw [rd_behind_all2, sSeq_run]
  show ((forL _ _ (xs.map Stp.D) [some (.val (.tup (xs.map Stp.D))), some (.val (optD (some d))), none] s)).bind _ = _
  rw [q]; rfl
/-- a script -/
def scD (xs : List Stp) : D := .ins "Script" [("own_steps", .tup (xs.map Stp.D))]
theorem isnum_ok (n : Int) : (sem_is_number cs [.int n] : M S D) s = .ok (.bl true) s := sem_num rfl
theorem call_ok (xs : List Stp) (h : ∀ x ∈ xs, x.rd) (d : Int) (hd : 0 ≤ d) : sem_Script___call__ cs [scD xs, .int d] s = .ok (optD (fate xs (some d))) s := by
  have e := behind_all2_ok (cs := cs) (s := s) xs h d
  have f : (fldC "Script" "own_steps" (rVar 0) : Env → M S D) [some (.val (scD xs)), some (.val (.int d))] s = .ok (.tup (xs.map Stp.D)) s := by kernel_rfl
  simp +decide only [sem_Script___call__, rd_Script___call__, sSeq_run, sIf_run, asT_run, bin_run, rVar_zero, rVar_succ, rC_run, Res.bind_ok, eqD_wd, if_false, if_true, sNx_run, sRet_run, iteE_run, orT_run, andT_run, notT_run, andV_run, orV_run, cal_run, aCons_run, aNil_run, List.length, List.replicate, Nat.reduceSub, List.map, List.cons_append, List.nil_append, List.append_nil, startE, runB, f, isnum_ok, Nat.sub_self, ltD, intOp0_run, e, show ¬ d < 0 by omega, Bool.not_true, decide_false]
end
end DL
set_option Elab.async false
set_option linter.all false
set_option maxRecDepth 100000
set_option maxHeartbeats 4000000
set_option autoImplicit false
/-! scripts that are made -/
namespace DL
open PySem PySem.Spec PyProof.Rows L2 Rh
def small (n : Int) : Prop := -100 ≤ n ∧ n ≤ 100
instance (n : Int) : Decidable (small n) := by unfold small; exact inferInstance
def Pl.wf : Pl → Prop
  | .shift n => small n
  | .frm n => small n
  | .unt n => small n
  | .keep p rs => Wf p rs
  | .strike p rs => Wf p rs
def optOk : Option Int → Prop
  | none => True
  | some n => small n
def Stp.wf : Stp → Prop
  | .pl x => x.wf
  | .add p rs a b => Wf p rs ∧ small a ∧ optOk b
  | .since n xs => small n ∧ xs ≠ [] ∧ ∀ x ∈ xs, x.wf
theorem Pl.wf.rd {x : Pl} (h : x.wf) : x.rd := by
  cases x <;> first | trivial | exact (show 0 < _ from Int.lt_of_lt_of_le (by decide) (Wf.pos h))
theorem Stp.wf.rd {x : Stp} (h : x.wf) : x.rd := by
  cases x with
  | pl x => exact Pl.wf.rd h
  | add p rs a b => trivial
  | since n xs => exact fun x hx => (h.2.2 x hx).rd
section
variable {S : Type} {s : S} {cs : List Str}
theorem stepnum_ok (n : Int) (h : small n) : (sem_is_step_number cs [.int n] : M S D) s = .ok (.bl true) s := by
  obtain ⟨h1, h2⟩ := h
  have e1 : (leD (.int (-100)) (.int n) : M S D) s = .ok (.bl true) s := by
    show Res.ok (D.bl (decide (-100 ≤ n))) s = _
    rw [decide_eq_true h1]
  have e2 : (leD (.int n) (.int 100) : M S D) s = .ok (.bl true) s := by
    show Res.ok (D.bl (decide (n ≤ 100))) s = _
    rw [decide_eq_true h2]
  have ng : ∀ env : Env, (negD (rC (.int 100)) : Env → M S D) env s = .ok (.int (-100)) s := fun _ => rfl
  simp +decide only [sem_is_step_number, rd_is_step_number, sSeq_run, sIf_run, asT_run, bin_run, rVar_zero, rVar_succ, rC_run, Res.bind_ok, eqD_wd, if_false, if_true, sNx_run, sRet_run, iteE_run, orT_run, andT_run, notT_run, andV_run, orV_run, cal_run, aCons_run, aNil_run, List.length, List.replicate, Nat.reduceSub, Nat.sub_self, List.map, List.cons_append, List.nil_append, List.append_nil, startE, runB, Bool.not_true, Bool.not_false, truD_bl, isi_run, bcl_run, isnum_ok, chn_run, ng, e1, e2]
theorem tb_in {tr fa : List Str} {t : Str} (h : t ∈ tr) : tbOf tr fa t = some true := if_pos h
theorem isi_of {tb : Str → Option Bool} {d : D} {b : Bool} {t : Str} (h : tagD d = some t) (h' : tb t = some b) : (isiD tb d : M S D) s = .ok (.bl b) s := by
  unfold isiD; rw [h, Option.bind_some, h']; rfl
theorem tag_rh (p : Int) (rs : List Int) : tagD (rhD p rs) = some (Str.ofString "Rhythm") := by
  show (if Str.ofString "Rhythm" ∈ tyNames then none else some (Str.ofString "Rhythm")) = _
  rw [if_neg (by decide)]
theorem tupT (ds : List D) : (isiD (tb_kit_ty_tuple cs) (.tup ds) : M S D) s = .ok (.bl true) s := isi_of rfl (tb_in (by decide))
theorem strT (x : Str) : (isiD (tb_kit_ty_str cs) (.str x) : M S D) s = .ok (.bl true) s := isi_of rfl (tb_in (by decide))
theorem rhT (p : Int) (rs : List Int) : (isiD (tb_kit_own_Rhythm cs) (rhD p rs) : M S D) s = .ok (.bl true) s := isi_of (tag_rh p rs) (tb_in (by decide))
theorem len2 (a b : D) : (lenD [.tup [a, b]] : M S D) s = .ok (.int 2) s := by kernel_rfl
theorem len3 (a b c : D) : (lenD [.tup [a, b, c]] : M S D) s = .ok (.int 3) s := by kernel_rfl
theorem len4 (a b c d : D) : (lenD [.tup [a, b, c, d]] : M S D) s = .ok (.int 4) s := by kernel_rfl
theorem inW2 {a b c : Str} : (inD false (.str a) (.tup [.str b, .str c]) : M S D) s = .ok (.bl (b == a || (c == a || false))) s := rfl
theorem inW3 {a b c d : Str} : (inD false (.str a) (.tup [.str b, .str c, .str d]) : M S D) s = .ok (.bl (b == a || (c == a || (d == a || false)))) s := rfl
theorem tw2 {env : Env} {b c : Str} : (tupD (aCons (rC (.str b)) (aCons (rC (.str c)) aNil)) : Env → M S D) env s = .ok (.tup [.str b, .str c]) s := by kernel_rfl
theorem tw3 {env : Env} {b c d : Str} : (tupD (aCons (rC (.str b)) (aCons (rC (.str c)) (aCons (rC (.str d)) aNil))) : Env → M S D) env s = .ok (.tup [.str b, .str c, .str d]) s := by kernel_rfl
theorem plain_ok (x : Pl) (h : x.wf) : (sem_is_plain_step cs [x.D] : M S D) s = .ok (.bl true) s := by
  cases x with
  | keep p rs => simp +decide only [sem_is_plain_step, rd_is_plain_step, sSeq_run, sIf_run, asT_run, bin_run, rVar_zero, rVar_succ, rC_run, Res.bind_ok, eqD_wd, if_false, if_true, sNx_run, sRet_run, iteE_run, orT_run, andT_run, notT_run, andV_run, orV_run, cal_run, aCons_run, aNil_run, List.length, List.replicate, Nat.reduceSub, Nat.sub_self, List.map, List.cons_append, List.nil_append, List.append_nil, startE, runB, Bool.not_true, Bool.not_false, truD_bl, isi_run, bcl_run, Pl.D, tupT, strT, rhT, len2, ix2_0, ix2_1, eqD_int, tw2, tw3, inW2, inW3]
  | strike p rs => simp +decide only [sem_is_plain_step, rd_is_plain_step, sSeq_run, sIf_run, asT_run, bin_run, rVar_zero, rVar_succ, rC_run, Res.bind_ok, eqD_wd, if_false, if_true, sNx_run, sRet_run, iteE_run, orT_run, andT_run, notT_run, andV_run, orV_run, cal_run, aCons_run, aNil_run, List.length, List.replicate, Nat.reduceSub, Nat.sub_self, List.map, List.cons_append, List.nil_append, List.append_nil, startE, runB, Bool.not_true, Bool.not_false, truD_bl, isi_run, bcl_run, Pl.D, tupT, strT, rhT, len2, ix2_0, ix2_1, eqD_int, tw2, tw3, inW2, inW3]
  | shift n => simp +decide only [sem_is_plain_step, rd_is_plain_step, sSeq_run, sIf_run, asT_run, bin_run, rVar_zero, rVar_succ, rC_run, Res.bind_ok, eqD_wd, if_false, if_true, sNx_run, sRet_run, iteE_run, orT_run, andT_run, notT_run, andV_run, orV_run, cal_run, aCons_run, aNil_run, List.length, List.replicate, Nat.reduceSub, Nat.sub_self, List.map, List.cons_append, List.nil_append, List.append_nil, startE, runB, Bool.not_true, Bool.not_false, truD_bl, isi_run, bcl_run, Pl.D, tupT, strT, rhT, len2, ix2_0, ix2_1, eqD_int, tw2, tw3, inW2, inW3, stepnum_ok n h]
  | frm n => simp +decide only [sem_is_plain_step, rd_is_plain_step, sSeq_run, sIf_run, asT_run, bin_run, rVar_zero, rVar_succ, rC_run, Res.bind_ok, eqD_wd, if_false, if_true, sNx_run, sRet_run, iteE_run, orT_run, andT_run, notT_run, andV_run, orV_run, cal_run, aCons_run, aNil_run, List.length, List.replicate, Nat.reduceSub, Nat.sub_self, List.map, List.cons_append, List.nil_append, List.append_nil, startE, runB, Bool.not_true, Bool.not_false, truD_bl, isi_run, bcl_run, Pl.D, tupT, strT, rhT, len2, ix2_0, ix2_1, eqD_int, tw2, tw3, inW2, inW3, stepnum_ok n h]
  | unt n => simp +decide only [sem_is_plain_step, rd_is_plain_step, sSeq_run, sIf_run, asT_run, bin_run, rVar_zero, rVar_succ, rC_run, Res.bind_ok, eqD_wd, if_false, if_true, sNx_run, sRet_run, iteE_run, orT_run, andT_run, notT_run, andV_run, orV_run, cal_run, aCons_run, aNil_run, List.length, List.replicate, Nat.reduceSub, Nat.sub_self, List.map, List.cons_append, List.nil_append, List.append_nil, startE, runB, Bool.not_true, Bool.not_false, truD_bl, isi_run, bcl_run, Pl.D, tupT, strT, rhT, len2, ix2_0, ix2_1, eqD_int, tw2, tw3, inW2, inW3, stepnum_ok n h]
theorem plain_no3 (a b c : D) : (sem_is_plain_step cs [.tup [a, b, c]] : M S D) s = .ok (.bl false) s := by
  simp +decide only [sem_is_plain_step, rd_is_plain_step, sSeq_run, sIf_run, asT_run, bin_run, rVar_zero, rVar_succ, rC_run, Res.bind_ok, eqD_wd, if_false, if_true, sNx_run, sRet_run, iteE_run, orT_run, andT_run, notT_run, andV_run, orV_run, cal_run, aCons_run, aNil_run, List.length, List.replicate, Nat.reduceSub, Nat.sub_self, List.map, List.cons_append, List.nil_append, List.append_nil, startE, runB, Bool.not_true, Bool.not_false, truD_bl, isi_run, bcl_run, tupT, len3, eqD_int]
theorem plain_no4 (a b c d : D) : (sem_is_plain_step cs [.tup [a, b, c, d]] : M S D) s = .ok (.bl false) s := by
  simp +decide only [sem_is_plain_step, rd_is_plain_step, sSeq_run, sIf_run, asT_run, bin_run, rVar_zero, rVar_succ, rC_run, Res.bind_ok, eqD_wd, if_false, if_true, sNx_run, sRet_run, iteE_run, orT_run, andT_run, notT_run, andV_run, orV_run, cal_run, aCons_run, aNil_run, List.length, List.replicate, Nat.reduceSub, Nat.sub_self, List.map, List.cons_append, List.nil_append, List.append_nil, startE, runB, Bool.not_true, Bool.not_false, truD_bl, isi_run, bcl_run, tupT, len4, eqD_int]
theorem add_no3 (a b c : D) : (sem_is_add cs [.tup [a, b, c]] : M S D) s = .ok (.bl false) s := by
  simp +decide only [sem_is_add, rd_is_add, sSeq_run, sIf_run, asT_run, bin_run, rVar_zero, rVar_succ, rC_run, Res.bind_ok, eqD_wd, if_false, if_true, sNx_run, sRet_run, iteE_run, orT_run, andT_run, notT_run, andV_run, orV_run, cal_run, aCons_run, aNil_run, List.length, List.replicate, Nat.reduceSub, Nat.sub_self, List.map, List.cons_append, List.nil_append, List.append_nil, startE, runB, Bool.not_true, Bool.not_false, truD_bl, isi_run, bcl_run, tupT, len3, eqD_int]
theorem isN_int (b : Int) : (isND false (.int b) .non : M S D) s = .ok (.bl false) s := rfl
theorem isN_opt (b : Option Int) : (isND false (optD b) .non : M S D) s = .ok (.bl b.isNone) s := by cases b <;> rfl
theorem add_ok (p : Int) (rs : List Int) (a : Int) (b : Option Int) (h : Stp.wf (.add p rs a b)) : (sem_is_add cs [Stp.D (.add p rs a b)] : M S D) s = .ok (.bl true) s := by
  obtain ⟨_, ha, hb⟩ := h
  cases b with
  | none => simp +decide only [sem_is_add, rd_is_add, sSeq_run, sIf_run, asT_run, bin_run, rVar_zero, rVar_succ, rC_run, Res.bind_ok, eqD_wd, if_false, if_true, sNx_run, sRet_run, iteE_run, orT_run, andT_run, notT_run, andV_run, orV_run, cal_run, aCons_run, aNil_run, List.length, List.replicate, Nat.reduceSub, Nat.sub_self, List.map, List.cons_append, List.nil_append, List.append_nil, startE, runB, Bool.not_true, Bool.not_false, truD_bl, isi_run, bcl_run, Stp.D, tupT, strT, rhT, len4, ix4_0, ix4_1, ix4_2, ix4_3, eqD_int, stepnum_ok a ha, isN_opt, Option.isNone]
  | some b => simp +decide only [sem_is_add, rd_is_add, sSeq_run, sIf_run, asT_run, bin_run, rVar_zero, rVar_succ, rC_run, Res.bind_ok, eqD_wd, if_false, if_true, sNx_run, sRet_run, iteE_run, orT_run, andT_run, notT_run, andV_run, orV_run, cal_run, aCons_run, aNil_run, List.length, List.replicate, Nat.reduceSub, Nat.sub_self, List.map, List.cons_append, List.nil_append, List.append_nil, startE, runB, Bool.not_true, Bool.not_false, truD_bl, isi_run, bcl_run, Stp.D, tupT, strT, rhT, len4, ix4_0, ix4_1, ix4_2, ix4_3, eqD_int, stepnum_ok a ha, isN_int, optD, stepnum_ok b hb]
theorem cmpL_T {T : Type} {env : Env} {t : Env → M S Bool} {e : Env → M S D} {i : Nat} (f : T → D) (p : T → Bool) (g : T → D) : ∀ {xs : List T}, (∀ x ∈ xs, t (env.set i (some (.val (f x)))) s = .ok (p x) s) → (∀ x ∈ xs, p x = true → e (env.set i (some (.val (f x)))) s = .ok (g x) s) →
    cmpL (gNm i) t e env (xs.map f) s = .ok ((xs.filter p).map g) s
  | [], _, _ => rfl
  | x :: xs, ht, he => by
    have ih := cmpL_T f p g (xs := xs) (fun y hy => ht y (List.mem_cons_of_mem _ hy)) fun y hy => he y (List.mem_cons_of_mem _ hy)
    show (t (env.set i (some (.val (f x)))) s).bind _ = _
    rw [ht x List.mem_cons_self]
    cases hp : p x with
    | true =>
      show (e (env.set i (some (.val (f x)))) s).bind _ = _
      rw [he x List.mem_cons_self hp]
      show (cmpL (gNm i) t e env (xs.map f) s).bind _ = _
      rw [ih, List.filter_cons_of_pos hp]
      rfl
    | false =>
      show cmpL (gNm i) t e env (xs.map f) s = _
      rw [ih, List.filter_cons_of_neg (by rw [hp]; exact Bool.false_ne_true)]
theorem cmpL_TM {T : Type} {env : Env} {e : Env → M S D} {i : Nat} (f : T → D) (g : T → D) {xs : List T} (he : ∀ x ∈ xs, e (env.set i (some (.val (f x)))) s = .ok (g x) s) : cmpL (gNm i) tYs e env (xs.map f) s = .ok (xs.map g) s := by
  rw [cmpL_T f (fun _ => true) g (fun _ _ => rfl) fun x hx _ => he x hx]
  rw [List.filter_eq_self.mpr (fun _ _ => rfl)]
theorem since_ok (n : Int) (xs : List Pl) (h : Stp.wf (.since n xs)) (hl : xs.length ≤ 1000) : (sem_is_since cs [Stp.D (.since n xs)] : M S D) s = .ok (.bl true) s := by
  obtain ⟨hn, hx, hw⟩ := h
  have hz : (xs.map Pl.D).length ≤ sizeLine := by rw [List.length_map, sizeLine_eq]; omega
  have el : (lenD [.tup (xs.map Pl.D)] : M S D) s = .ok (.int xs.length) s := by
    show Res.ok (D.int (xs.map Pl.D).length) s = _
    rw [List.length_map]
  have ne : ((xs.length : Int) == 0) = false := by
    cases xs with
    | nil => exact absurd rfl hx
    | cons => simp; omega
  have ec : cmpL (gNm 1) tYs (cal (sem_is_plain_step cs) [] 1 (aCons (rVar 1) aNil)) (wipeE [some (.val (Stp.D (.since n xs))), none] [1]) (xs.map Pl.D) s = .ok (xs.map fun _ => D.bl true) s := cmpL_TM Pl.D (fun _ => D.bl true) fun x hx => by
    show sem_is_plain_step cs [x.D] s = _
    exact plain_ok x (hw x hx)
  have ea : (allD false [.lst (xs.map fun _ => D.bl true)] : M S D) s = .ok (.bl true) s := by
    rw [allD_map (fun _ => true) xs, List.all_eq_true.mpr fun _ _ => rfl]
  have ecm : (cmp [1] (iSq (bin ixD (rVar 0) (rC (.int 2)))) (gNm 1) tYs (cal (sem_is_plain_step cs) [] 1 (aCons (rVar 1) aNil)) : Env → M S D) [some (.val (Stp.D (.since n xs))), none] s = .ok (.lst (xs.map fun _ => D.bl true)) s := by
    rw [cmp_run]
    show (if (xs.map Pl.D).length ≤ sizeLine then _ else _) = _
    rw [if_pos hz, calm_of ec]
    rfl
  simp only [Stp.D] at ecm
  simp +decide only [sem_is_since, rd_is_since, sSeq_run, sIf_run, asT_run, bin_run, rVar_zero, rVar_succ, rC_run, Res.bind_ok, eqD_wd, if_false, if_true, sNx_run, sRet_run, iteE_run, orT_run, andT_run, notT_run, andV_run, orV_run, cal_run, aCons_run, aNil_run, List.length, List.replicate, Nat.reduceSub, Nat.sub_self, List.map, List.cons_append, List.nil_append, List.append_nil, startE, runB, Bool.not_true, Bool.not_false, truD_bl, isi_run, bcl_run, Stp.D, tupT, strT, rhT, len3, ix3_0, ix3_1, ix3_2, eqD_int, stepnum_ok n hn, el, ne, ecm, ea]
theorem step_ok (x : Stp) (h : x.wf) (hl : ∀ n xs, x = .since n xs → xs.length ≤ 1000) : (sem_is_step cs [x.D] : M S D) s = .ok (.bl true) s := by
  cases x with
  | pl x => simp +decide only [sem_is_step, rd_is_step, sSeq_run, sIf_run, asT_run, bin_run, rVar_zero, rVar_succ, rC_run, Res.bind_ok, eqD_wd, if_false, if_true, sNx_run, sRet_run, iteE_run, orT_run, andT_run, notT_run, andV_run, orV_run, cal_run, aCons_run, aNil_run, List.length, List.replicate, Nat.reduceSub, Nat.sub_self, List.map, List.cons_append, List.nil_append, List.append_nil, startE, runB, Bool.not_true, Bool.not_false, truD_bl, isi_run, bcl_run, Stp.D, plain_ok x h]
  | add p rs a b =>
    have e := add_ok (cs := cs) (s := s) p rs a b h
    simp only [Stp.D] at e
    simp +decide only [sem_is_step, rd_is_step, sSeq_run, sIf_run, asT_run, bin_run, rVar_zero, rVar_succ, rC_run, Res.bind_ok, eqD_wd, if_false, if_true, sNx_run, sRet_run, iteE_run, orT_run, andT_run, notT_run, andV_run, orV_run, cal_run, aCons_run, aNil_run, List.length, List.replicate, Nat.reduceSub, Nat.sub_self, List.map, List.cons_append, List.nil_append, List.append_nil, startE, runB, Bool.not_true, Bool.not_false, truD_bl, isi_run, bcl_run, Stp.D, plain_no4, e]
  | since n xs =>
    have e := since_ok (cs := cs) (s := s) n xs h (hl n xs rfl)
    simp only [Stp.D] at e
    simp +decide only [sem_is_step, rd_is_step, sSeq_run, sIf_run, asT_run, bin_run, rVar_zero, rVar_succ, rC_run, Res.bind_ok, eqD_wd, if_false, if_true, sNx_run, sRet_run, iteE_run, orT_run, andT_run, notT_run, andV_run, orV_run, cal_run, aCons_run, aNil_run, List.length, List.replicate, Nat.reduceSub, Nat.sub_self, List.map, List.cons_append, List.nil_append, List.append_nil, startE, runB, Bool.not_true, Bool.not_false, truD_bl, isi_run, bcl_run, Stp.D, plain_no3, add_no3, e]
end
end DL
set_option Elab.async false
set_option linter.all false
set_option maxRecDepth 100000
set_option maxHeartbeats 4000000
set_option autoImplicit false
/-! scripts that are made: their steps counted, their round -/
namespace DL
open PySem PySem.Spec PyProof.Rows L2 Rh
/-- a step and those within it -/
def Stp.flat : Stp → List Stp
  | .since n xs => .since n xs :: xs.map Stp.pl
  | x => [x]
def flatS (xs : List Stp) : List Stp := xs.flatMap Stp.flat
/-- the round of a step that has a rhythm -/
def Stp.rnd : Stp → Option Int
  | .pl (.keep p _) => some p
  | .pl (.strike p _) => some p
  | .add p _ _ _ => some p
  | _ => none
def rounds (xs : List Stp) : List Int := (flatS xs).filterMap Stp.rnd
def lcmL : List Int → Int → Int
  | [], i => i
  | p :: ps, i => lcmL ps (lcmI i p)
def roundS (xs : List Stp) : Int := lcmL (rounds xs) 1
section
variable {S : Type} {s : S} {cs : List Str}
theorem forL_nx {body : Env → M S Flw} {i : Nat} {x : D} {xs : List D} {env e : Env} {s1 : S} (h : body (env.set i (some (.val x))) s = .ok (.nx e) s1) : forL (gNm i) body (x :: xs) env s = forL (gNm i) body xs e s1 := by
  show (body (env.set i (some (.val x))) s).bind _ = _
  rw [h]; rfl
theorem sSeq_nx {a b : Env → M S Flw} {env e : Env} {s1 : S} (h : a env s = .ok (.nx e) s1) : sSeq a b env s = b e s1 := by rw [sSeq_run, h]; rfl
theorem app_run {a : Option Slot} {ds : List D} {d : D} (h : ds.length < sizeLine) : (sApp 1 (rVar 2) : Env → M S Flw) [a, some (.own ds), some (.val d)] s = .ok (.nx [a, some (.own (ds ++ [d])), some (.val d)]) s := by
  show (grd (ds.length < sizeLine) _ : M S Flw) s = _
  rw [grd_run, if_pos h]; rfl
theorem word0 (x : Stp) (env : Env) (h : env[2]? = some (some (.val x.D))) : ∃ w ∈ wds, (bin ixD (rVar 2) (rC (.int 0)) : Env → M S D) env s = .ok (.str w) s ∧ (w = "since" ↔ ∃ n xs, x = .since n xs) ∧ ((w = "keep" ∨ w = "strike" ∨ w = "add") ↔ x.rnd.isSome) := by
  have e : (rVar 2 : Env → M S D) env s = .ok x.D s := rVar_run h
  rw [bin_run, e, Res.bind_ok, rC_run, Res.bind_ok]
  cases x with
  | pl x => cases x <;> exact ⟨_, by decide, rfl, by simp +decide, by simp +decide [Stp.rnd]⟩
  | add p rs a b => exact ⟨_, by decide, rfl, by simp +decide, by simp +decide [Stp.rnd]⟩
  | since n xs => exact ⟨_, by decide, rfl, by simp +decide, by simp +decide [Stp.rnd]⟩
theorem flat_body (x : Stp) (a : Option Slot) (ds : List D) (h : ds.length + x.flat.length ≤ 1000000) :
    (sSeq (sApp 1 (rVar 2)) (sIf (asT (bin (eqD false) (bin ixD (rVar 2) (rC (.int 0))) (rC (.str "since")))) (sExt 1 (bcl listD (aCons (bin ixD (rVar 2) (rC (.int 2))) aNil))) sNx) : Env → M S Flw) [a, some (.own ds), some (.val x.D)] s
      = .ok (.nx [a, some (.own (ds ++ x.flat.map Stp.D)), some (.val x.D)]) s := by
  have hf : 1 ≤ x.flat.length := by cases x <;> simp [Stp.flat]
  rw [sSeq_run, app_run (by rw [sizeLine_eq]; omega), Res.bind_ok]
  obtain ⟨w, hw, e, hs, _⟩ := word0 (s := s) x [a, some (.own (ds ++ [x.D])), some (.val x.D)] rfl
  simp +decide only [sIf_run, asT_run, bin_run, rC_run, Res.bind_ok] at e ⊢
  rw [e, Res.bind_ok, eqD_wd hw (by decide)]
  by_cases q : w = "since"
  · obtain ⟨n, xs, rfl⟩ := hs.mp q
    subst q
    have hl : (ds ++ [Stp.D (.since n xs)]).length + (xs.map Pl.D).length ≤ sizeLine := by
      simp only [Stp.flat, List.length_cons, List.length_map] at h
      rw [List.length_append, List.length_map, sizeLine_eq]
      simp only [List.length_cons, List.length_nil]
      omega
    show (grd ((ds ++ [Stp.D (.since n xs)]).length + (xs.map Pl.D).length ≤ sizeLine) _ : M S Flw) s = _
    rw [grd_run, if_pos hl]
    have e3 : ds ++ [Stp.D (.since n xs)] ++ xs.map Pl.D = ds ++ (Stp.flat (.since n xs)).map Stp.D := by
      simp [Stp.flat, List.map_map, Function.comp_def, Stp.D]
    show Res.ok (Flw.nx [a, some (.own (ds ++ [Stp.D (.since n xs)] ++ xs.map Pl.D)), _]) s = _
    rw [e3]
  · have ef : x.flat = [x] := by
      cases x with
      | since n xs => exact absurd (hs.mpr ⟨n, xs, rfl⟩) q
      | _ => rfl
    rw [ef]
    simp [q]
theorem flat_for : ∀ (xs : List Stp) (a : Option Slot) (ds : List D) (e2 : Option Slot) (_ : ds.length + (flatS xs).length ≤ 1000000), ∃ e2',
    forL (gNm 2) (sSeq (sApp 1 (rVar 2)) (sIf (asT (bin (eqD false) (bin ixD (rVar 2) (rC (.int 0))) (rC (.str "since")))) (sExt 1 (bcl listD (aCons (bin ixD (rVar 2) (rC (.int 2))) aNil))) sNx)) (xs.map Stp.D) [a, some (.own ds), e2] s
      = .ok (.nx [a, some (.own (ds ++ (flatS xs).map Stp.D)), e2']) s
  | [], a, ds, e2, _ => ⟨e2, by simp [flatS]; rfl⟩
  | x :: xs, a, ds, e2, h => by
    have h1 : (flatS (x :: xs)).length = x.flat.length + (flatS xs).length := by simp [flatS]
    obtain ⟨e2', ih⟩ := flat_for xs a (ds ++ x.flat.map Stp.D) (some (.val x.D)) (by rw [List.length_append, List.length_map]; omega)
    refine ⟨e2', ?_⟩
    refine (forL_nx (flat_body x a ds (by omega))).trans ?_
    have e3 : ds ++ (flatS (x :: xs)).map Stp.D = ds ++ x.flat.map Stp.D ++ (flatS xs).map Stp.D := by simp [flatS]
    rw [e3]
    exact ih
theorem flat_ok (xs : List Stp) (d : D) (hd : d = .lst (xs.map Stp.D) ∨ d = .tup (xs.map Stp.D)) (h : (flatS xs).length ≤ 1000000) : (sem_flat [d] : M S D) s = .ok (.lst ((flatS xs).map Stp.D)) s := by
  obtain ⟨e2, q⟩ := flat_for (s := s) xs (some (.val d)) [] none (by simpa using h)
  refine runB_rt ?_
  rw [rd_flat]
  have e1 : (sOwn 1 aNil : Env → M S Flw) (startE N_flat [d]) s = .ok (.nx [some (.val d), some (.own []), none]) s := by kernel_rfl
  rw [sSeq_nx e1, sSeq_nx (e := [some (.val d), some (.own ((flatS xs).map Stp.D)), e2]) (s1 := s)]
  · rfl
  · rw [sFor_run, iSq_run, rVar_zero, Res.bind_ok]
    rcases hd with rfl | rfl
    · exact q
    · exact q
end
end DL
set_option Elab.async false
set_option linter.all false
set_option maxRecDepth 100000
set_option maxHeartbeats 4000000
set_option autoImplicit false
/-! scripts that are made: rounds, Script(..) -/
namespace DL
open PySem PySem.Spec PyProof.Rows L2 Rh
theorem lcmI_dvd {i j : Int} (hi : 1 ≤ i) (hj : 1 ≤ j) : i ≤ lcmI i j ∧ j ≤ lcmI i j ∧ 1 ≤ lcmI i j := by
  unfold lcmI
  have hg : 0 < (Int.gcd i j : Int) := by
    have := Int.gcd_pos_of_ne_zero_left j (show i ≠ 0 by omega)
    omega
  have hgi : (Int.gcd i j : Int) ∣ i := Int.gcd_dvd_left ..
  have hgj : (Int.gcd i j : Int) ∣ j := Int.gcd_dvd_right ..
  obtain ⟨a, ha⟩ := hgi
  obtain ⟨b, hb⟩ := hgj
  have hga : i / (Int.gcd i j : Int) = a := by
    conv => lhs; arg 1; rw [ha]
    exact Int.mul_ediv_cancel_left a (by omega)
  rw [hga]
  have ap : 1 ≤ a := by
    by_cases h : 1 ≤ a
    · exact h
    · have : (Int.gcd i j : Int) * a ≤ 0 := Int.mul_nonpos_of_nonneg_of_nonpos (by omega) (by omega)
      omega
  have bp : 1 ≤ b := by
    by_cases h : 1 ≤ b
    · exact h
    · have : (Int.gcd i j : Int) * b ≤ 0 := Int.mul_nonpos_of_nonneg_of_nonpos (by omega) (by omega)
      omega
  have h1 : j ≤ a * j := by
    have := Int.mul_le_mul_of_nonneg_right ap (show 0 ≤ j by omega)
    omega
  have h2 : i ≤ a * j := by
    have e : a * j = (Int.gcd i j : Int) * a * b := by
      conv => lhs; arg 2; rw [hb]
      rw [← Int.mul_assoc, Int.mul_comm a]
    rw [e, ← ha]
    have := Int.mul_le_mul_of_nonneg_left bp (show 0 ≤ i by omega)
    omega
  exact ⟨h2, h1, by omega⟩
theorem lcmL_le : ∀ (ps : List Int) (i : Int), 1 ≤ i → (∀ p ∈ ps, 1 ≤ p) → i ≤ lcmL ps i
  | [], i, _, _ => Int.le_refl _
  | p :: ps, i, hi, h => by
    obtain ⟨h1, h2, h3⟩ := lcmI_dvd hi (h p List.mem_cons_self)
    exact Int.le_trans h1 (lcmL_le ps (lcmI i p) h3 fun q hq => h q (List.mem_cons_of_mem _ hq))
/-- the rhythm of a step that has one -/
def Stp.rh : Stp → Int × List Int
  | .pl (.keep p rs) => (p, rs)
  | .pl (.strike p rs) => (p, rs)
  | .add p rs _ _ => (p, rs)
  | _ => (1, [])
theorem rounds_eq (zs : List Stp) : zs.filterMap Stp.rnd = ((zs.filter fun x => x.rnd.isSome).map Stp.rh).map (·.1) := by
  induction zs with
  | nil => rfl
  | cons x zs ih =>
    cases hx : x.rnd with
    | none =>
      rw [List.filterMap_cons_none hx, List.filter_cons_of_neg (by rw [hx]; exact Bool.false_ne_true), ih]
    | some p =>
      rw [List.filterMap_cons_some hx, List.filter_cons_of_pos (by rw [hx]; rfl), List.map_cons, List.map_cons, ih]
      congr 1
      cases x with
      | pl x => cases x <;> first | cases hx; rfl | cases hx
      | add p rs a b => cases hx; rfl
      | since n xs => cases hx
section
variable {S : Type} {s : S} {cs : List Str}
theorem common_ok {i j : Int} (h : 1 ≤ i ∧ i < 1073741824 ∧ 1 ≤ j ∧ j < 1073741824) : (sem_common [.int i, .int j] : M S D) s = .ok (.int (lcmI i j)) s := by
  show (grd (1 ≤ i ∧ i < 1073741824 ∧ 1 ≤ j ∧ j < 1073741824) (pure (.int (lcmI i j))) : M S D) s = _
  rw [grd_pos h]; rfl
theorem cr_for (B : Int) (hB : B < 1073741824) : ∀ (qs : List (Int × List Int)) (a : Option Slot) (i : Int) (e2 : Option Slot) (_ : 1 ≤ i) (_ : ∀ q ∈ qs, 1 ≤ q.1) (_ : lcmL (qs.map (·.1)) i ≤ B), ∃ e2',
    forL (gNm 2) (sAsg (cal sem_common [] 2 (aCons (rVar 1) (aCons (prp "Rhythm" sem_Rhythm_size (rVar 2)) aNil))) (gNm 1)) (qs.map fun q => rhD q.1 q.2) [a, some (.val (.int i)), e2] s
      = .ok (.nx [a, some (.val (.int (lcmL (qs.map (·.1)) i))), e2']) s
  | [], a, i, e2, _, _, _ => ⟨e2, rfl⟩
  | q :: qs, a, i, e2, hi, hq, hb => by
    obtain ⟨h1, h2, h3⟩ := lcmI_dvd hi (hq q List.mem_cons_self)
    have hl : lcmI i q.1 ≤ lcmL (qs.map (·.1)) (lcmI i q.1) := lcmL_le _ _ h3 fun p hp => by
      obtain ⟨r, hr, rfl⟩ := List.mem_map.mp hp
      exact hq r (List.mem_cons_of_mem _ hr)
    have hb' : lcmL (qs.map (·.1)) (lcmI i q.1) ≤ B := hb
    obtain ⟨e2', ih⟩ := cr_for B hB qs a (lcmI i q.1) (some (.val (rhD q.1 q.2))) h3 (fun r hr => hq r (List.mem_cons_of_mem _ hr)) hb'
    refine ⟨e2', ?_⟩
    have hc : 1 ≤ i ∧ i < 1073741824 ∧ 1 ≤ q.1 ∧ q.1 < 1073741824 := ⟨hi, by omega, hq q List.mem_cons_self, by omega⟩
    have es : (sem_Rhythm_size [rhD q.1 q.2] : M S D) s = .ok (.int q.1) s := by
      show onRh _ (rhD q.1 q.2) s = _
      rw [onRh_run]; rfl
    have ep : (prp "Rhythm" sem_Rhythm_size (rVar 2) : Env → M S D) [a, some (.val (.int i)), some (.val (rhD q.1 q.2))] s = .ok (.int q.1) s := by
      rw [prp_run]
      show (grd ((Str.ofString "Rhythm" : Str) = Str.ofString "Rhythm") (calmM (sem_Rhythm_size [rhD q.1 q.2])) : M S D) s = _
      rw [grd_pos rfl, calm_of es]
    refine (forL_nx (e := [a, some (.val (.int (lcmI i q.1))), some (.val (rhD q.1 q.2))]) (s1 := s) ?_).trans ih
    show (sAsg _ _ : Env → M S Flw) [a, some (.val (.int i)), some (.val (rhD q.1 q.2))] s = _
    have ea : (aCons (rVar 1) (aCons (prp "Rhythm" sem_Rhythm_size (rVar 2)) aNil) : Env → M S (List D)) [a, some (.val (.int i)), some (.val (rhD q.1 q.2))] s = .ok [.int i, .int q.1] s := by
      rw [aCons_run, rVar_succ, rVar_zero, Res.bind_ok, aCons_run, ep]; rfl
    rw [sAsg_run, cal_run, ea, Res.bind_ok]
    show ((sem_common [.int i, .int q.1] : M S D) s).bind _ = _
    rw [common_ok hc]; rfl
theorem common_round_ok (B : Int) (hB : B < 1073741824) (qs : List (Int × List Int)) (hq : ∀ q ∈ qs, 1 ≤ q.1) (hb : lcmL (qs.map (·.1)) 1 ≤ B) (d : D) (hd : d = .lst (qs.map fun q => rhD q.1 q.2) ∨ d = .tup (qs.map fun q => rhD q.1 q.2)) :
    (sem_common_round [d] : M S D) s = .ok (.int (lcmL (qs.map (·.1)) 1)) s := by
  obtain ⟨e2, q⟩ := cr_for (s := s) B hB qs (some (.val d)) 1 none (by decide) hq hb
  refine runB_rt ?_
  rw [rd_common_round, sSeq_nx (e := [some (.val d), some (.val (.int 1)), none]) (s1 := s) rfl, sSeq_nx (e := [some (.val d), some (.val (.int (lcmL (qs.map (·.1)) 1))), e2]) (s1 := s)]
  · rfl
  · rw [sFor_run, iSq_run, rVar_zero, Res.bind_ok]
    rcases hd with rfl | rfl
    · exact q
    · exact q
theorem flat_wf {xs : List Stp} (h : ∀ x ∈ xs, x.wf) : ∀ z ∈ flatS xs, z.wf := fun z hz => by
  obtain ⟨x, hx, hz⟩ := List.mem_flatMap.mp hz
  have w := h x hx
  cases x with
  | since n ys =>
    rcases List.mem_cons.mp hz with rfl | hz
    · exact w
    · obtain ⟨y, hy, rfl⟩ := List.mem_map.mp hz
      exact w.2.2 y hy
  | pl x => cases List.mem_singleton.mp hz; exact w
  | add p rs a b => cases List.mem_singleton.mp hz; exact w
theorem word1 (x : Stp) (a : Option Slot) : ∃ w ∈ wds, (bin ixD (rVar 1) (rC (.int 0)) : Env → M S D) [a, some (.val x.D)] s = .ok (.str w) s ∧ ((("keep" : Str) == w || ((("strike" : Str) == w) || ((("add" : Str) == w) || false))) = x.rnd.isSome) := by
  cases x with
  | pl x => cases x <;> exact ⟨_, by decide, rfl, by simp +decide [Stp.rnd]⟩
  | add p rs a b => exact ⟨_, by decide, rfl, by simp +decide [Stp.rnd]⟩
  | since n xs => exact ⟨_, by decide, rfl, by simp +decide [Stp.rnd]⟩
theorem round_ok (xs : List Stp) (d : D) (hd : d = .lst (xs.map Stp.D) ∨ d = .tup (xs.map Stp.D)) (h : (flatS xs).length ≤ 1000000) (hw : ∀ x ∈ xs, x.wf) (hb : roundS xs < 1073741824) : (sem_round_of [d] : M S D) s = .ok (.int (roundS xs)) s := by
  have ef := flat_ok (s := s) xs d hd h
  have fw := flat_wf hw
  have ec : cmpL (gNm 1) (asT (bin (inD false) (bin ixD (rVar 1) (rC (.int 0))) (tupD (aCons (rC (.str "keep")) (aCons (rC (.str "strike")) (aCons (rC (.str "add")) aNil)))))) (bin ixD (rVar 1) (rC (.int 1))) (wipeE [some (.val d), none] [1]) ((flatS xs).map Stp.D) s
      = .ok (((flatS xs).filter fun x => x.rnd.isSome).map fun x => rhD x.rh.1 x.rh.2) s := by
    refine cmpL_T Stp.D (fun x => x.rnd.isSome) (fun x => rhD x.rh.1 x.rh.2) (fun x _ => ?_) fun x _ hx => ?_
    · obtain ⟨w, hw, e, e2⟩ := word1 (s := s) x (some (.val d))
      show asT _ [some (.val d), some (.val x.D)] s = _
      rw [asT_run, bin_run, e, Res.bind_ok, tw3, Res.bind_ok, inW3, e2]; rfl
    · show bin _ _ _ [some (.val d), some (.val x.D)] s = _
      cases x with
      | pl x => cases x <;> first | rfl | cases hx
      | add p rs a b => rfl
      | since n xs => cases hx
  have em : (((flatS xs).filter fun x => x.rnd.isSome).map fun x => rhD x.rh.1 x.rh.2) = (((flatS xs).filter fun x => x.rnd.isSome).map Stp.rh).map fun q => rhD q.1 q.2 := by
    rw [List.map_map]; rfl
  have er : roundS xs = lcmL ((((flatS xs).filter fun x => x.rnd.isSome).map Stp.rh).map (·.1)) 1 := by
    unfold roundS rounds; rw [rounds_eq]
  rw [er] at hb ⊢
  have ep : ∀ q ∈ ((flatS xs).filter fun x => x.rnd.isSome).map Stp.rh, 1 ≤ q.1 := fun q hq => by
    obtain ⟨x, hx, rfl⟩ := List.mem_map.mp hq
    obtain ⟨hx, hs⟩ := List.mem_filter.mp hx
    have w := fw x hx
    cases x with
    | pl x => cases x <;> first | exact Wf.pos w | cases hs
    | add p rs a b => exact Wf.pos w.1
    | since n xs => cases hs
  have hz : ((flatS xs).map Stp.D).length ≤ sizeLine := by rw [List.length_map, sizeLine_eq]; omega
  have e3 : (cmp [1] (iSq (cal sem_flat [] 1 (aCons (rVar 0) aNil))) (gNm 1) (asT (bin (inD false) (bin ixD (rVar 1) (rC (.int 0))) (tupD (aCons (rC (.str "keep")) (aCons (rC (.str "strike")) (aCons (rC (.str "add")) aNil)))))) (bin ixD (rVar 1) (rC (.int 1))) : Env → M S D) [some (.val d), none] s
      = .ok (.lst ((((flatS xs).filter fun x => x.rnd.isSome).map Stp.rh).map fun q => rhD q.1 q.2)) s := by
    rw [cmp_run, iSq_run, cal_run]
    show (((sem_flat [d] : M S D) s).bind _).bind _ = _
    rw [ef, Res.bind_ok]
    show (if ((flatS xs).map Stp.D).length ≤ sizeLine then _ else _) = _
    rw [if_pos hz, calm_of ec, em]
    rfl
  refine runB_rt ?_
  show (sRet _ : Env → M S Flw) [some (.val d), none] s = _
  rw [sRet_run, cal_run, aCons_run, e3]
  show ((sem_common_round [_] : M S D) s).bind _ = _
  rw [common_round_ok (lcmL ((((flatS xs).filter fun x => x.rnd.isSome).map Stp.rh).map (·.1)) 1) hb _ ep (Int.le_refl _) _ (.inl rfl)]
  rfl
theorem few_ok (xs : List Stp) (d : D) (hd : d = .lst (xs.map Stp.D) ∨ d = .tup (xs.map Stp.D)) (h : (flatS xs).length ≤ 12) (hw : ∀ x ∈ xs, x.wf) (hb : roundS xs ≤ 84) : (sem_need_few [d] : M S D) s = .ok .non s := by
  have ef := flat_ok (s := s) xs d hd (by omega)
  have er := round_ok (s := s) xs d hd (by omega) hw (by omega)
  have el : (lenD [.lst ((flatS xs).map Stp.D)] : M S D) s = .ok (.int (flatS xs).length) s := by
    show Res.ok (D.int ((flatS xs).map Stp.D).length) s = _
    rw [List.length_map]
  have g1 : ¬ (((flatS xs).length : Int) > 12) := by omega
  have g2 : ¬ (roundS xs > 84) := by omega
  simp +decide only [sem_need_few, rd_need_few, sSeq_run, sIf_run, asT_run, bin_run, rVar_zero, rVar_succ, rC_run, Res.bind_ok, eqD_wd, if_false, if_true, sNx_run, sRet_run, iteE_run, orT_run, andT_run, notT_run, andV_run, orV_run, cal_run, aCons_run, aNil_run, List.length, List.replicate, Nat.reduceSub, Nat.sub_self, List.map, List.cons_append, List.nil_append, List.append_nil, startE, runB, Bool.not_true, Bool.not_false, truD_bl, isi_run, bcl_run, ef, er, el, gtD, intOp0_run, decide_eq_false g1, decide_eq_false g2]
theorem init_for (cs : List Str) : ∀ (xs : List Stp) (k : Nat) (a b : Option Slot) (e2 e3 : Option Slot) (_ : ∀ x ∈ xs, x.wf ∧ ∀ n ys, x = .since n ys → ys.length ≤ 1000), ∃ e2' e3',
    forL (gTp 2 (gsCons (gNm 2) (gsCons (gNm 3) gsNil))) (sIf (notT (asT (cal (sem_is_step cs) [] 1 (aCons (rVar 3) aNil)))) sNo sNx) (enumL k (xs.map Stp.D)) [a, b, e2, e3] s = .ok (.nx [a, b, e2', e3']) s
  | [], k, a, b, e2, e3, _ => ⟨e2, e3, rfl⟩
  | x :: xs, k, a, b, e2, e3, h => by
    obtain ⟨e2', e3', ih⟩ := init_for cs xs (k + 1) a b (some (.val (.int (k : Int)))) (some (.val x.D)) fun y hy => h y (List.mem_cons_of_mem _ hy)
    refine ⟨e2', e3', ?_⟩
    have hx := h x List.mem_cons_self
    have key : (sIf (notT (asT (cal (sem_is_step cs) [] 1 (aCons (rVar 3) aNil)))) sNo sNx : Env → M S Flw) [a, b, some (.val (.int (k : Int))), some (.val x.D)] s = .ok (.nx [a, b, some (.val (.int (k : Int))), some (.val x.D)]) s := by
      simp +decide only [sSeq_run, sIf_run, asT_run, bin_run, rVar_zero, rVar_succ, rC_run, Res.bind_ok, eqD_wd, if_false, if_true, sNx_run, sRet_run, iteE_run, orT_run, andT_run, notT_run, andV_run, orV_run, cal_run, aCons_run, aNil_run, List.length, List.replicate, Nat.reduceSub, Nat.sub_self, List.map, List.cons_append, List.nil_append, List.append_nil, startE, runB, Bool.not_true, Bool.not_false, truD_bl, isi_run, bcl_run, step_ok x hx.1 hx.2]
    show ((sIf (notT (asT (cal (sem_is_step cs) [] 1 (aCons (rVar 3) aNil)))) sNo sNx : Env → M S Flw) [a, b, some (.val (.int (k : Int))), some (.val x.D)] s).bind _ = _
    rw [key]; exact ih
theorem mem_flat_len {xs : List Stp} {n : Int} {ys : List Pl} (h : Stp.since n ys ∈ xs) : ys.length ≤ (flatS xs).length := by
  have hs : (Stp.flat (.since n ys)).Sublist (flatS xs) := by
    unfold flatS
    rw [List.flatMap_def]
    exact List.sublist_flatten_of_mem (List.mem_map_of_mem h)
  have := hs.length_le
  simp only [Stp.flat, List.length_cons, List.length_map] at this
  omega
theorem init_ok (xs : List Stp) (h : (flatS xs).length ≤ 12) (hw : ∀ x ∈ xs, x.wf) (hb : roundS xs ≤ 84) : (sem_Script___init__ cs [.lst (xs.map Stp.D)] : M S (List (Str × D))) s = .ok [("own_steps", .tup (xs.map Stp.D))] s := by
  obtain ⟨e2, e3, q⟩ := init_for (s := s) cs xs 0 (some (.obj "Script" [])) (some (.val (.lst (xs.map Stp.D)))) none none fun x hx => ⟨hw x hx, fun n ys e => by
    subst e
    have := mem_flat_len hx
    omega⟩
  have e1 : (sIf (notT (asT (cal (sem_is_list cs) [] 1 (aCons (rVar 1) aNil)))) sNo sNx : Env → M S Flw) [some (.obj "Script" []), some (.val (.lst (xs.map Stp.D))), none, none] s = .ok (.nx [some (.obj "Script" []), some (.val (.lst (xs.map Stp.D))), none, none]) s := by
    have := sem_isl (cs := cs) (d := .lst (xs.map Stp.D)) (s := s) rfl
    simp +decide only [sSeq_run, sIf_run, asT_run, bin_run, rVar_zero, rVar_succ, rC_run, Res.bind_ok, eqD_wd, if_false, if_true, sNx_run, sRet_run, iteE_run, orT_run, andT_run, notT_run, andV_run, orV_run, cal_run, aCons_run, aNil_run, List.length, List.replicate, Nat.reduceSub, Nat.sub_self, List.map, List.cons_append, List.nil_append, List.append_nil, startE, runB, Bool.not_true, Bool.not_false, truD_bl, isi_run, bcl_run, this, isSeqD]
  have e4 : (sDrop (cal sem_need_few [] 1 (aCons (rVar 1) aNil)) : Env → M S Flw) [some (.obj "Script" []), some (.val (.lst (xs.map Stp.D))), e2, e3] s = .ok (.nx [some (.obj "Script" []), some (.val (.lst (xs.map Stp.D))), e2, e3]) s := by
    rw [sDrop_run]
    show ((sem_need_few [.lst (xs.map Stp.D)] : M S D) s).bind _ = _
    rw [few_ok xs _ (.inl rfl) h hw hb]; rfl
  have e6 : (sFor (iEnm (aCons (rVar 1) aNil)) (gTp 2 (gsCons (gNm 2) (gsCons (gNm 3) gsNil))) (sIf (notT (asT (cal (sem_is_step cs) [] 1 (aCons (rVar 3) aNil)))) sNo sNx) : Env → M S Flw) [some (.obj "Script" []), some (.val (.lst (xs.map Stp.D))), none, none] s = .ok (.nx [some (.obj "Script" []), some (.val (.lst (xs.map Stp.D))), e2, e3]) s := q
  have e5 : rd_Script___init__ cs [some (.obj "Script" []), some (.val (.lst (xs.map Stp.D))), none, none] s = .ok (.nx [some (.obj "Script" [("own_steps", .tup (xs.map Stp.D))]), some (.val (.lst (xs.map Stp.D))), e2, e3]) s := by
    rw [rd_Script___init__, sSeq_nx e1, sSeq_nx e6, sSeq_nx e4]
    kernel_rfl
  show (match rd_Script___init__ cs [some (.obj "Script" []), some (.val (.lst (xs.map Stp.D))), none, none] s with
    | .ok (.nx (some (.obj c' fs) :: _)) s' => if c' = "Script" then Res.ok fs s' else .stk
    | .ok _ _ => .stk
    | .err x s' => .err x s'
    | .stk => .stk) = _
  rw [e5]
  exact if_pos rfl
theorem init_okT (xs : List Stp) (h : (flatS xs).length ≤ 12) (hw : ∀ x ∈ xs, x.wf) (hb : roundS xs ≤ 84) : (sem_Script___init__ cs [.tup (xs.map Stp.D)] : M S (List (Str × D))) s = .ok [("own_steps", .tup (xs.map Stp.D))] s := by
  obtain ⟨e2, e3, q⟩ := init_for (s := s) cs xs 0 (some (.obj "Script" [])) (some (.val (.tup (xs.map Stp.D)))) none none fun x hx => ⟨hw x hx, fun n ys e => by
    subst e
    have := mem_flat_len hx
    omega⟩
  have e1 : (sIf (notT (asT (cal (sem_is_list cs) [] 1 (aCons (rVar 1) aNil)))) sNo sNx : Env → M S Flw) [some (.obj "Script" []), some (.val (.tup (xs.map Stp.D))), none, none] s = .ok (.nx [some (.obj "Script" []), some (.val (.tup (xs.map Stp.D))), none, none]) s := by
    have := sem_isl (cs := cs) (d := .tup (xs.map Stp.D)) (s := s) rfl
    simp +decide only [sSeq_run, sIf_run, asT_run, bin_run, rVar_zero, rVar_succ, rC_run, Res.bind_ok, eqD_wd, if_false, if_true, sNx_run, sRet_run, iteE_run, orT_run, andT_run, notT_run, andV_run, orV_run, cal_run, aCons_run, aNil_run, List.length, List.replicate, Nat.reduceSub, Nat.sub_self, List.map, List.cons_append, List.nil_append, List.append_nil, startE, runB, Bool.not_true, Bool.not_false, truD_bl, isi_run, bcl_run, this, isSeqD]
  have e4 : (sDrop (cal sem_need_few [] 1 (aCons (rVar 1) aNil)) : Env → M S Flw) [some (.obj "Script" []), some (.val (.tup (xs.map Stp.D))), e2, e3] s = .ok (.nx [some (.obj "Script" []), some (.val (.tup (xs.map Stp.D))), e2, e3]) s := by
    rw [sDrop_run]
    show ((sem_need_few [.tup (xs.map Stp.D)] : M S D) s).bind _ = _
    rw [few_ok xs _ (.inr rfl) h hw hb]; rfl
  have e6 : (sFor (iEnm (aCons (rVar 1) aNil)) (gTp 2 (gsCons (gNm 2) (gsCons (gNm 3) gsNil))) (sIf (notT (asT (cal (sem_is_step cs) [] 1 (aCons (rVar 3) aNil)))) sNo sNx) : Env → M S Flw) [some (.obj "Script" []), some (.val (.tup (xs.map Stp.D))), none, none] s = .ok (.nx [some (.obj "Script" []), some (.val (.tup (xs.map Stp.D))), e2, e3]) s := q
  have e5 : rd_Script___init__ cs [some (.obj "Script" []), some (.val (.tup (xs.map Stp.D))), none, none] s = .ok (.nx [some (.obj "Script" [("own_steps", .tup (xs.map Stp.D))]), some (.val (.tup (xs.map Stp.D))), e2, e3]) s := by
    rw [rd_Script___init__, sSeq_nx e1, sSeq_nx e6, sSeq_nx e4]
    kernel_rfl
  show (match rd_Script___init__ cs [some (.obj "Script" []), some (.val (.tup (xs.map Stp.D))), none, none] s with
    | .ok (.nx (some (.obj c' fs) :: _)) s' => if c' = "Script" then Res.ok fs s' else .stk
    | .ok _ _ => .stk
    | .err x s' => .err x s'
    | .stk => .stk) = _
  rw [e5]
  exact if_pos rfl
end
end DL
set_option Elab.async false
set_option linter.all false
set_option maxRecDepth 100000
set_option maxHeartbeats 4000000
set_option autoImplicit false
namespace DL
open PySem PySem.Spec PyProof.Rows L2 Rh
/-! ### expressions that are a rhythm, whatever the state -/
abbrev eqOr {S : Type} (cs : List Str) : D → D → M S D := orD (opOwn "Rhythm" (sem_Rhythm___eq__ cs)) (eqD false) fun d _ => isIns d
abbrev subOr {S : Type} (cs : List Str) : D → D → M S D := orD (opOwn "Rhythm" (sem_Rhythm___sub__ cs)) subD fun d _ => isIns d
section
variable {S : Type} {env : Env} {τ υ κ : Env → M S D} {A B : Int → Prop} {L : Int} {cs : List Str}
/-- an expression that is the data d -/
def Det (τ : Env → M S D) (env : Env) (d : D) : Prop := ∀ s, τ env s = .ok d s
def DetT (t : Env → M S Bool) (env : Env) (b : Bool) : Prop := ∀ s, t env s = .ok b s
/-- a rhythm whose days are A, of a period that divides L -/
def RE (L : Int) (τ : Env → M S D) (env : Env) (A : Int → Prop) : Prop := ∃ p rs, Det τ env (rhD p rs) ∧ Can p rs ∧ (∀ x, has p rs x ↔ A x) ∧ p ∣ L
theorem Det.var {i : Nat} {d : D} (h : env[i]? = some (some (.val d))) : Det (rVar i : Env → M S D) env d := fun s => rVar_run h
theorem Det.c {d : D} : Det (rC d : Env → M S D) env d := fun s => rfl
theorem Det.bin {f : D → D → M S D} {x y z : D} (h : Det τ env x) (h' : Det υ env y) (k : ∀ s, f x y s = .ok z s) : Det (bin f τ υ) env z := fun s => by
  rw [bin_run, h s, Res.bind_ok, h' s, Res.bind_ok, k s]
theorem per_le {p m : Int} (h : p ∣ L) (hL : 1 ≤ L) (hp : 1 ≤ p) : p ≤ L := Int.le_of_dvd (by omega) h
theorem asc_len : ∀ {rs : List Int} {a n : Int}, rs.Pairwise (· < ·) → (∀ r ∈ rs, a ≤ r ∧ r < n) → rs.length ≤ (n - a).toNat
  | [], _, _, _, _ => Nat.zero_le _
  | r :: rs, a, n, h, b => by
    have hr := b r List.mem_cons_self
    have h2 := List.pairwise_cons.mp h
    have ih := asc_len (rs := rs) (a := r + 1) (n := n) h2.2 fun x hx => by
      have := h2.1 x hx
      have := b x (List.mem_cons_of_mem _ hx)
      omega
    simp only [List.length_cons]
    omega
theorem wf_len {n : Int} {rs : List Int} (w : Wf n rs) : rs.length ≤ n.toNat := by
  have h := asc_len (a := 0) (n := n) (srt_lt w.nd) fun r hr => w.lt r (mem_srt.mp hr)
  rw [(srt_perm rs).length_eq] at h
  omega
theorem mk_can {n : Int} {rs : List Int} (w : Wf n rs) (h : n ∣ L) (hA : ∀ x, has n rs x ↔ A x) : Can (leastP n rs) (formR n rs) ∧ (∀ x, has (leastP n rs) (formR n rs) x ↔ A x) ∧ leastP n rs ∣ L :=
  ⟨form_can w, fun x => (form_has w x).trans (hA x), Int.dvd_trans (Int.dvd_of_emod_eq_zero (form_le w).2) h⟩
theorem RE.op {f : Bool → Bool → Bool} {g : D → D → M S D} (hc : ("Rhythm" : Str) ∈ cs) (hL : 1 ≤ L) (hL' : L ≤ 3000) (hg : ∀ p rs q ts s, g (rhD p rs) (rhD q ts) s = (semOp cs f [rhD p rs, rhD q ts] : M S D) s) (h : RE L τ env A) (h' : RE L υ env B)
    {C : Int → Prop} (hC : ∀ (a b : Bool) x, (a = true ↔ A x) → (b = true ↔ B x) → (f a b = true ↔ C x)) : RE L (bin g τ υ) env C := by
  obtain ⟨p, rs, d, c, e, l⟩ := h
  obtain ⟨q, ts, d', c', e', l'⟩ := h'
  have hp := per_le (m := 0) l hL c.pos
  have hq := per_le (m := 0) l' hL c'.pos
  have hm : lcmI p q ∣ L := lcmI_least c.pos c'.pos hL l l'
  have h1 := lcmI_pos c.pos c'.pos
  have h2 := per_le (m := 0) hm hL h1
  have w := wf_filter h1 fun x => f (decide (x % p ∈ rs)) (decide (x % q ∈ ts))
  obtain ⟨a1, a2, a3⟩ := mk_can (A := C) w hm fun x => by
    rw [has_filter h1]
    refine hC _ _ x ?_ ?_
    · rw [mod_mod (lcmI_dvd_left c.pos c'.pos), decide_eq_true_iff]; exact e x
    · rw [mod_mod (lcmI_dvd_right c.pos c'.pos), decide_eq_true_iff]; exact e' x
  exact ⟨_, _, Det.bin d d' fun s => by rw [hg, sem_op ⟨⟨c.pos, by omega, hc⟩, ⟨c'.pos, by omega, hc⟩, by omega⟩]; rfl, a1, a2, a3⟩
theorem own_run {sem : List D → M S D} {p q : Int} {rs ts : List Int} {s : S} : opOwn "Rhythm" sem (rhD p rs) (rhD q ts) s = sem [rhD p rs, rhD q ts] s := by
  simp only [opOwn, rhD, onIns_run, grd_run, and_self, if_true]
theorem RE.or (hc : ("Rhythm" : Str) ∈ cs) (hL : 1 ≤ L) (hL' : L ≤ 3000) (h : RE L τ env A) (h' : RE L υ env B) : RE L (bin (opOwn "Rhythm" (sem_Rhythm___or__ cs)) τ υ) env fun x => A x ∨ B x :=
  RE.op hc hL hL' (fun p rs q ts s => own_run) h h' fun a b x ha hb => by rw [Bool.or_eq_true, ha, hb]
theorem RE.and (hc : ("Rhythm" : Str) ∈ cs) (hL : 1 ≤ L) (hL' : L ≤ 3000) (h : RE L τ env A) (h' : RE L υ env B) : RE L (bin (opOwn "Rhythm" (sem_Rhythm___and__ cs)) τ υ) env fun x => A x ∧ B x :=
  RE.op hc hL hL' (fun p rs q ts s => own_run) h h' fun a b x ha hb => by rw [Bool.and_eq_true, ha, hb]
theorem RE.sub (hc : ("Rhythm" : Str) ∈ cs) (hL : 1 ≤ L) (hL' : L ≤ 3000) (h : RE L τ env A) (h' : RE L υ env B) : RE L (bin (subOr cs) τ υ) env fun x => A x ∧ ¬ B x :=
  RE.op (g := subOr cs) (f := fun a b => a && !b) hc hL hL' (fun p rs q ts s => own_run) h h' fun a b x ha hb => by rw [Bool.and_eq_true, ha, ← hb]; simp
theorem RE.mk {n : Int} {rs : List Int} {α : Env → M S (List D)} {th : D} (hn : n ≤ 3000) (hl : rs.length ≤ 3000) (w : Wf n rs) (hd : n ∣ L) (ha : ∀ s, α env s = .ok [.int n, th] s) (hth : th = .lst (rs.map .int) ∨ th = .tup (rs.map .int)) : RE L (mk "Rhythm" (sem_Rhythm___init__ cs) [] 2 α) env (has n rs) := by
  obtain ⟨a1, a2, a3⟩ := mk_can (A := has n rs) w hd fun x => Iff.rfl
  exact ⟨_, _, fun s => mk_rh (ha s) hth ⟨wfB_iff.mpr w, hn, hl⟩, a1, a2, a3⟩
theorem RE.none {n : Int} (hn : 1 ≤ n) (hn' : n ≤ 3000) : RE n (DL.mk "Rhythm" (sem_Rhythm___init__ cs) [] 2 (aCons (rC (.int n)) (aCons (lstD aNil) aNil)) : Env → M S D) env fun _ => False := by
  obtain ⟨p, rs, d, c, e, l⟩ := RE.mk (S := S) (cs := cs) (env := env) (L := n) (n := n) (rs := []) (α := aCons (rC (.int n)) (aCons (lstD aNil) aNil)) (th := .lst []) hn' (by decide) ⟨hn, by simp, List.nodup_nil⟩ (Int.dvd_refl n) (fun s => by simp) (.inl rfl)
  exact ⟨p, rs, d, c, fun x => (e x).trans (by simp), l⟩
theorem RE.eqv {M1 M2 : Int} (hc : ("Rhythm" : Str) ∈ cs) (h : RE M1 τ env A) (h' : RE M2 υ env B) : ∃ b, Det (bin (eqOr cs) τ υ) env (.bl b) ∧ (b = true ↔ ∀ x, A x ↔ B x) := by
  obtain ⟨p, rs, d, c, e, l⟩ := h
  obtain ⟨q, ts, d', c', e', l'⟩ := h'
  refine ⟨_, Det.bin d d' fun s => own_run.trans (sem_eq hc), ?_⟩
  rw [decide_eq_true_iff]
  constructor
  · rintro ⟨rfl, rfl⟩ x
    exact (e x).symm.trans (e' x)
  · intro z
    exact can_ext c c' fun x => (e x).trans ((z x).trans (e' x).symm)
/-- the period of a rhythm is that of its days -/
theorem RE.size {M1 : Int} (h : RE M1 τ env A) : ∃ p rs, Det τ env (rhD p rs) ∧ 1 ≤ p ∧ (∀ m, Per A m ↔ p ∣ m) := by
  obtain ⟨p, rs, d, c, e, l⟩ := h
  refine ⟨p, rs, d, c.pos, fun m => ⟨fun z => Int.dvd_of_emod_eq_zero (can_dvd c (z.congr fun x => (e x).symm)), ?_⟩⟩
  rintro ⟨k, rfl⟩
  exact ((per_has p rs).mul k).congr e
theorem DetT.or {t u : Env → M S Bool} (h : DetT t env false) (h' : DetT u env false) : DetT (orT t u) env false := fun s => by
  rw [orT_run, h s, Res.bind_ok, if_neg (by simp), h' s]
theorem DetT.as {b : Bool} (h : Det τ env (.bl b)) : DetT (asT τ) env b := fun s => by rw [asT_run, h s]; rfl
theorem DetT.skip {t : Env → M S Bool} {a : Env → M S Flw} (h : DetT t env false) (s : S) : sIf t a sNx env s = .ok (.nx env) s := by
  rw [sIf_run, h s]; rfl
end
end DL
set_option Elab.async false
set_option linter.all false
set_option maxRecDepth 100000
set_option maxHeartbeats 4000000
set_option autoImplicit false
/-! DL: exceptions as values: made (by place, by keyword), asked by isinstance, their attributes read -/
namespace DL
open PySem PySem.Spec PyProof.Rows L2
/-! ### an exception class called with keywords -/
end DL
set_option Elab.async false
set_option linter.all false
set_option maxRecDepth 100000
set_option maxHeartbeats 4000000
set_option autoImplicit false
/-! DL: exceptions as values: rules -/
namespace DL
open PySem PySem.Spec PyProof.Rows L2
/-! ### isinstance of an exception -/
/-! ### err.f -/
/-! ### an exception made -/
/-! ### the rules over data -/
end DL
set_option Elab.async false
set_option linter.all false
set_option maxRecDepth 100000
set_option maxHeartbeats 4000000
set_option autoImplicit false
/-! DL: repr of plain data, where no repr is under way -/
namespace DL
open PySem PySem.Spec PyProof.Rows L2
variable {S : Type} {X : Cx} {F : Fx S}
def keyP : Key → PyData
  | .inl i => .int i
  | .inr x => .str x
/-! ### over data -/
def leafD : D → Option PyData
  | .non => some .none
  | .bl b => some (.bool b)
  | .int i => some (.int i)
  | .str x => some (.str x)
  | _ => none
def leafKv : List (Key × D) → Option (List (PyData × PyData))
  | [] => some []
  | (k, d) :: r => match leafD d, leafKv r with
    | some a, some b => some ((keyP k, a) :: b)
    | _, _ => none
def shwD : D → Option PyData
  | .dct kvs => (leafKv kvs).map .dict
  | d => pd d
def reprD : List D → M S D := a1 fun d => match shwD d with
  | some a => grd (a.showable = true ∧ a.depth ≤ 64 ∧ a.shown.length ≤ sizeLine) (pure (.str a.shown))
  | none => stk
end DL
set_option Elab.async false
set_option linter.all false
set_option maxRecDepth 100000
set_option maxHeartbeats 4000000
set_option autoImplicit false
/-! expressions that are a fixed datum: more of them; what repr is told of -/
namespace DL
open PySem PySem.Spec PyProof.Rows L2 Rh
section
variable {S : Type} {env : Env} {τ υ : Env → M S D} {i j k : Int} {x y z : D}
theorem Yes.skip {t : Env → M S Bool} {a : Env → M S Flw} (h : DetT t env false) : Yes (sIf t a sNx env) fun f => ∃ e, f = .nx e ∧ e = env := fun s => ⟨_, s, h.skip s, env, rfl, rfl⟩
theorem Yes.seqSkip {t : Env → M S Bool} {a b : Env → M S Flw} {Q : Flw → Prop} (h : DetT t env false) (k : Yes (b env) Q) : Yes (sSeq (sIf t a sNx) b env) Q := Yes.seq (Yes.skip h) (by rintro _ rfl; exact k)
theorem Det.call1 {f : List D → M S D} (h : Det τ env x) (k : ∀ s, f [x] s = .ok z s) : Det (bcl f (aCons τ aNil)) env z := fun s => by
  rw [bcl_run, aCons_run, h s]; exact k s
theorem Det.call2 {f : List D → M S D} (h : Det τ env x) (h' : Det υ env y) (k : ∀ s, f [x, y] s = .ok z s) : Det (bcl f (aCons τ (aCons υ aNil))) env z := fun s => by
  rw [bcl_run, aCons_run, h s, Res.bind_ok, aCons_run, h' s]; exact k s
theorem Det.cal1 {f : List D → M S D} (h : Det τ env x) (k : ∀ s, f [x] s = .ok z s) : Det (cal f [] 1 (aCons τ aNil)) env z := fun s => by
  rw [cal_run, aCons_run, h s]; exact k s
theorem Det.rng (h : Det τ env (.int j)) (hj : -(2 ^ 62) ≤ j ∧ j < 2 ^ 62) (s : S) : iR1 (aCons τ aNil) env s = .ok (rngD 0 j) s := by
  rw [iR1_run, aCons_run, h s]
  show (if -(2 ^ 62) ≤ j ∧ j < 2 ^ 62 then Res.ok (rngD 0 j) s else .stk) = _
  rw [if_pos hj]
theorem lstD_det {α : Env → M S (List D)} {ds : List D} (h : ∀ s, α env s = .ok ds s) (hl : ds.length ≤ 100 := by simp) : Det (lstD α) env (.lst ds) := fun s => by
  rw [lstD_run, h s, Res.bind_ok, if_pos (by rw [sizeLine_eq]; omega)]
theorem tupD_det {α : Env → M S (List D)} {ds : List D} (h : ∀ s, α env s = .ok ds s) (hl : ds.length ≤ 100 := by simp) : Det (tupD α) env (.tup ds) := fun s => by
  rw [tupD_run, h s, Res.bind_ok, if_pos (by rw [sizeLine_eq]; omega)]
theorem aNil_det (s : S) : (aNil : Env → M S (List D)) env s = .ok [] s := rfl
theorem aCons_det {α : Env → M S (List D)} {d : D} {ds : List D} (h : Det τ env d) (k : ∀ s, α env s = .ok ds s) (s : S) : aCons τ α env s = .ok (d :: ds) s := by
  rw [aCons_run, h s, Res.bind_ok, k s]; rfl
theorem Det.add (h : Det τ env (.int i)) (h' : Det υ env (.int j)) : Det (DL.bin addD τ υ) env (.int (i + j)) := Det.bin h h' fun s => addD_int
theorem Det.mul (h : Det τ env (.int i)) (h' : Det υ env (.int j)) (c : CMul i j) : Det (DL.bin mulD τ υ) env (.int (i * j)) := Det.bin h h' fun s => intOp_run.trans (if_pos c)
theorem Det.mod (h : Det τ env (.int i)) (h' : Det υ env (.int j)) (c : 0 < j) : Det (DL.bin modD τ υ) env (.int (i % j)) := Det.bin h h' fun s => intOp_run.trans (if_pos c)
theorem DetT.lt (h : Det τ env (.int i)) (h' : Det υ env (.int j)) : DetT (asT (bin ltD τ υ)) env (decide (i < j)) := DetT.as (Det.bin h h' fun s => rfl)
theorem DetT.ge (h : Det τ env (.int i)) (h' : Det υ env (.int j)) : DetT (asT (bin geD τ υ)) env (decide (j ≤ i)) := DetT.as (Det.bin h h' fun s => rfl)
theorem DetT.eqI (h : Det τ env (.int i)) (h' : Det υ env (.int j)) : DetT (asT (bin (eqD false) τ υ)) env (decide (i = j)) := DetT.as (Det.bin h h' fun s => by
  rw [eqD_int]
  by_cases e : i = j <;> simp [e])
end
/-- repr is told of it, and is equal to itself -/
def Shw (item : D) : Prop := ∃ z : Str, ∀ s : DrS, (reprD [item] : M DrS D) s = .ok (.str z) s ∧ (eqD true (.str z) (.str z) : M DrS D) s = .ok (.bl false) s
theorem aCons_of {S : Type} {env : Env} {τ : Env → M S D} {α : Env → M S (List D)} {d : D} {ds : List D} {s s1 s2 : S} (h : τ env s = .ok d s1) (k : α env s1 = .ok ds s2) : aCons τ α env s = .ok (d :: ds) s2 := by
  rw [aCons_run, h, Res.bind_ok, k]; rfl
theorem lstD_of {S : Type} {env : Env} {α : Env → M S (List D)} {ds : List D} {s s1 : S} (h : α env s = .ok ds s1) (hl : ds.length ≤ 100) : lstD α env s = .ok (.lst ds) s1 := by
  rw [lstD_run, h, Res.bind_ok, if_pos (by rw [sizeLine_eq]; omega)]
theorem cal1_of {S : Type} {env : Env} {τ : Env → M S D} {sem : List D → M S D} {x z : D} {s s1 : S} (h : τ env s = .ok x s) (k : sem [x] s = .ok z s1) : cal sem [] 1 (aCons τ aNil) env s = .ok z s1 := by
  rw [cal_run, aCons_run, h]; exact k
theorem iSq_of {S : Type} {env : Env} {τ : Env → M S D} {ds : List D} {s s1 : S} (h : τ env s = .ok (.lst ds) s1) : iSq τ env s = .ok ds s1 := by
  rw [iSq_run, h]; rfl
theorem neq_of {S : Type} {env : Env} {f : List D → M S D} {τ υ : Env → M S D} {x : D} {z : Str} {s : S} (h : τ env s = .ok x s) (h' : υ env s = .ok x s) (k : f [x] s = .ok (.str z) s) (q : (eqD true (.str z) (.str z) : M S D) s = .ok (.bl false) s) : asT (bin (eqD true) (bcl f (aCons τ aNil)) (bcl f (aCons υ aNil))) env s = .ok false s := by
  have e1 : bcl f (aCons τ aNil) env s = .ok (.str z) s := by rw [bcl_run, aCons_run, h]; exact k
  have e2 : bcl f (aCons υ aNil) env s = .ok (.str z) s := by rw [bcl_run, aCons_run, h']; exact k
  rw [asT_run, bin_run, e1, Res.bind_ok, e2, Res.bind_ok, q]; rfl
theorem skip_of {S : Type} {env : Env} {t : Env → M S Bool} {a : Env → M S Flw} {s : S} (h : t env s = .ok false s) : sIf t a sNx env s = .ok (.nx env) s := by
  rw [sIf_run, h]; rfl
theorem seq_of {S : Type} {env e : Env} {a b : Env → M S Flw} {s s1 : S} {r : Res S Flw} (h : a env s = .ok (.nx e) s1) (k : b e s1 = r) : sSeq a b env s = r := by
  rw [sSeq_run, h]; exact k
end DL
set_option Elab.async false
set_option linter.all false
set_option maxRecDepth 100000
set_option maxHeartbeats 4000000
set_option autoImplicit false
/-! lists of days and None; scripts made -/
namespace DL
open PySem PySem.Spec PyProof.Rows L2 Rh
/-! ### lists of days and None -/
section
variable {S : Type} {s : S} {cs : List Str}
theorem sz1000 {n : Nat} (h : n ≤ 1000) : n ≤ sizeLine := by rw [sizeLine_eq]; omega
theorem Det.script {env : Env} {α : Env → M S (List D)} (xs : List Stp) (ha : ∀ s, α env s = .ok [.lst (xs.map Stp.D)] s) (h : (flatS xs).length ≤ 12) (hw : ∀ x ∈ xs, x.wf) (hb : roundS xs ≤ 84) : Det (mk "Script" (sem_Script___init__ cs) [] 1 α) env (scD xs) := fun s => by
  rw [mk_run, ha s, Res.bind_ok, if_pos (show [D.lst (xs.map Stp.D)].length + ([] : List D).length = 1 from rfl)]
  show ((sem_Script___init__ cs [.lst (xs.map Stp.D)] : M S (List (Str × D))) s).bind _ = _
  rw [init_ok xs h hw hb]; rfl
end
end DL
set_option Elab.async false
set_option linter.all false
set_option maxRecDepth 100000
set_option maxHeartbeats 4000000
set_option autoImplicit false
namespace DL
open PySem PySem.Spec PyProof.Rows L2 Rh
/-! ### the draws begin -/
def absI (i : Int) : Int := if i < 0 then -i else i
def widesOf (ns : List Int) : List Int := (ns.filter fun n => decide (10 ^ 18 ≤ absI n)).map fun n => absI n - 10 ^ 18
/-- all but the tables of code objects -/
def noT (H : Hp) : Hp := fun a => match H a with
  | some (.tbl _) => none
  | o => o
theorem noT_of {H : Hp} {a : Addr} {o : HO} (e : H a = some o) (n : NoTbl o) : noT H a = some o := by
  unfold noT
  rw [e]
  cases o <;> first | rfl | exact absurd rfl (n _)
theorem noT_same (H : Hp) : Same (noT H) H := fun a o e => by
  unfold noT at e
  cases h : H a with
  | none => rw [h] at e; cases e
  | some u =>
    rw [h] at e
    cases u <;> first | exact e | cases e
theorem noT_nt (H : Hp) (a : Addr) (o : HO) (e : noT H a = some o) : NoTbl o := fun ps z => by
  subst z
  unfold noT at e
  cases h : H a with
  | none => rw [h] at e; cases e
  | some u =>
    rw [h] at e
    cases u <;> cases e
theorem noT_none {H : Hp} {a : Addr} (e : H a = none) : noT H a = none := by unfold noT; rw [e]
theorem noT_sq {K : PySem.W.Frag} {H : Hp} {a : Addr} {xs : List V} (h : SqL K H a xs) : SqL K (noT H) a xs := by
  rcases h with (h | ⟨o, h⟩) | h
  · exact .inl (.inl (noT_of h (by intro _ h; cases h)))
  · exact .inl (.inr ⟨o, noT_of h (by intro _ h; cases h)⟩)
  · exact .inr h
def unitCc (K : PySem.W.Frag) (cad : Str → Addr) (H0 : Hp) : Cc Unit where
  K := K
  cad := cad
  hnd := fun _ => .non
  rep := fun _ H => ∀ a ps, H0 a = some (.tbl ps) → H a = some (.tbl ps)
  reg := fun _ => False
  frame := fun _ _ _ h r a ps e => h _ _ (r a ps e) (.inr trivial)
  there := fun _ _ _ _ h => h.elim
def spBegun (K : PySem.W.Frag) : Sp := fun vs H Q _ => ∃ a ns, vs = [.ref a] ∧ SqL K H a (ns.map V.int) ∧ ns.length ≤ 3000 ∧
  ∀ dp wl cl H', dp ≠ wl → dp ≠ cl → wl ≠ cl → H dp = none → H wl = none → H cl = none → Same H H' → (∀ b, H' b = none → H b = none) → RepDr dp wl cl (ns.map absI) ⟨widesOf ns, 0, 0⟩ H' → Q (.ref dp) H'
theorem repL_ints {S : Type} {C : Cc S} {G : Hp} : ∀ {ns : List Int} {vs : List V}, RepL C G (ns.map .int) vs → vs = ns.map V.int
  | [], _, r => r
  | n :: ns, _, ⟨v, r, e, a, b⟩ => by
    subst e
    have a : v = .int n := a
    subst a
    rw [repL_ints b]; rfl
theorem wide_run {ns : List Int} {x y : Option Slot} (h : ns.length ≤ 3000) : (cmp [2] (iSq (rVar 0)) (gNm 2) (asT (bin geD (bcl absD (aCons (rVar 2) aNil)) (bin powD (rC (.int 10)) (rC (.int 18))))) (bin subD (bcl absD (aCons (rVar 2) aNil)) (bin powD (rC (.int 10)) (rC (.int 18)))) : Env → M Unit D) [some (.val (.scr ns)), x, y] () = .ok (.lst ((widesOf ns).map .int)) () := by
  rw [cmp_run, iSq_run, rVar_zero, Res.bind_ok, Res.bind_ok, if_pos (by rw [List.length_map]; exact sz3 h)]
  rw [calm_of (cmpL_ints (fun n => decide (10 ^ 18 ≤ absI n)) (fun n => .int (absI n - 10 ^ 18)) ?_ ?_)]
  · show Res.ok (D.lst _) () = Res.ok (D.lst _) ()
    unfold widesOf
    rw [List.map_map]; rfl
  · intro n _
    rfl
  · intro n _ _
    rfl
theorem cells_run {ns : List Int} {x y : Option Slot} (h : ns.length ≤ 3000) : (cmp [2] (iSq (rVar 0)) (gNm 2) tYs (bcl absD (aCons (rVar 2) aNil)) : Env → M Unit D) [some (.val (.scr ns)), x, y] () = .ok (.lst ((ns.map absI).map .int)) () := by
  rw [cmp_run, iSq_run, rVar_zero, Res.bind_ok, Res.bind_ok, if_pos (by rw [List.length_map]; exact sz3 h)]
  rw [calm_of (cmpL_intsM (fun n => .int (absI n)) ?_)]
  · show Res.ok (D.lst _) () = Res.ok (D.lst _) ()
    rw [List.map_map]; rfl
  · intro n _
    rfl
def tBegun (F : Fx Unit) : TS := tSeq (tAsg (tLc (tI F (iSq (rVar 0))) (gName 2) (tT F.calm (asT (bin geD (bcl absD (aCons (rVar 2) aNil)) (bin powD (rC (.int 10)) (rC (.int 18)))))) (tE F.calm (bin subD (bcl absD (aCons (rVar 2) aNil)) (bin powD (rC (.int 10)) (rC (.int 18))))) [2]) (gName 1))
      (tRet (tDisp [(tE F (rC (.str "wide")), tVar 1), (tE F (rC (.str "left")), tE F (rC (.int 0))),
        (tE F (rC (.str "cells")), tLc (tI F (iSq (rVar 0))) (gName 2) (tT F.calm tYs) (tE F.calm (bcl absD (aCons (rVar 2) aNil))) [2]),
        (tE F (rC (.str "turn")), tE F (rC (.int 0)))]))
section
variable {K : PySem.W.Frag} {cad : Str → Addr} {H0 : Hp} {E : XK}
theorem begun_of {a : Addr} {ns : List Int} {Q : VK} {D : Ends} (hD : D.rt = Q) (hs : SqL K H0 a (ns.map V.int)) (hl : ns.length ≤ 3000)
    (hq : ∀ dp wl cl H', dp ≠ wl → dp ≠ cl → wl ≠ cl → H0 dp = none → H0 wl = none → H0 cl = none → Same H0 H' → (∀ b, H' b = none → H0 b = none) → RepDr dp wl cl (ns.map absI) ⟨widesOf ns, 0, 0⟩ H' → Q (.ref dp) H') :
    tBegun (fxOf (unitCc K cad H0) (noT H0) H0 E) D (L2.start ["_law_script", "_law_wide", "_law_cell"] [.ref a]) H0 := by
  have st0 : StG (fxOf (unitCc K cad H0) (noT H0) H0 E) (noT H0) (L2.start ["_law_script", "_law_wide", "_law_cell"] [.ref a]) H0 (startE ["_law_script", "_law_wide", "_law_cell"] [.scr ns]) () :=
    ⟨Ext.refl _ _ _, ⟨noT_same _, fun _ _ e => e, fun _ z => z.elim, noT_nt _⟩, repEnv_start (RepL.one ⟨a, rfl, noT_sq hs⟩)⟩
  unfold tBegun tSeq tAsg
  refine tLcN_of (F := fxOf (unitCc K cad H0) (noT H0) H0 E) (own := [2]) (γ := gNm 2) (gw_name (by decide)) _ _ _ ⟨noT H0, _, (), st0, ?_⟩
  show Post _ _ _ ((cmp [2] (iSq (rVar 0)) (gNm 2) _ _ : Env → M Unit DL.D) [some (.val (.scr ns)), none, none] ()) _
  rw [wide_run hl]
  intro v G1 H1 ⟨wl, hv, nw⟩ e1 st1 r1
  subst hv
  have st2 := st1.set 1 r1
  obtain ⟨wl', vw, ew, gw, zw, rw_⟩ := r1
  cases ew
  have hw1 := st1.gd.gh _ _ gw
  rw [repL_ints rw_] at hw1
  intro dp ndp
  have nrd : ∀ b : Addr, ¬ (fxOf (unitCc K cad H0) (noT H0) H0 E).reg b := fun _ z => z
  have ndp0 : H0 dp = none := e1.tr dp ndp
  have hdw : dp ≠ wl := fun z => by rw [z, hw1] at ndp; cases ndp
  obtain ⟨g3, e3⟩ := st2.gd.open_ ndp (.dK [])
  have st3 := st2.ext' e3 g3
  -- wide
  refine ⟨_, _, _, st3, fun v G4 H4 e4 st4 r4 => ?_⟩
  have r4 : v = .str "wide" := r4
  subst r4
  refine ⟨.ref wl, by rfl, ?_⟩
  -- left
  refine ⟨_, _, _, st4, fun v G5 H5 e5 st5 r5 => ?_⟩
  have r5 : v = .str "left" := r5
  subst r5
  refine ⟨_, _, _, st5, fun v G6 H6 e6 st6 r6 => ?_⟩
  have r6 : v = .int 0 := r6
  subst r6
  -- cells
  refine ⟨_, _, _, st6, fun v G7 H7 e7 st7 r7 => ?_⟩
  have r7 : v = .str "cells" := r7
  subst r7
  refine tLcN_of (F := fxOf (unitCc K cad H0) (noT H0) H0 E) (own := [2]) (γ := gNm 2) (gw_name (by decide)) _ _ _ ⟨_, _, _, st7, ?_⟩
  show Post _ _ _ ((cmp [2] (iSq (rVar 0)) (gNm 2) _ _ : Env → M Unit DL.D) [some (.val (.scr ns)), some (.val (.lst ((widesOf ns).map .int))), none] ()) _
  rw [cells_run hl]
  intro v G8 H8 ⟨cl, hv, ncl⟩ e8 st8 r8
  subst hv
  obtain ⟨cl', vc, ec, gc, zc, rc_⟩ := r8
  cases ec
  -- turn
  refine ⟨_, _, _, st8, fun v G9 H9 e9 st9 r9 => ?_⟩
  have r9 : v = .str "turn" := r9
  subst r9
  refine ⟨_, _, _, st9, fun v GA HA eA stA rA => ?_⟩
  have rA : v = .int 0 := rA
  subst rA
  have e37 := (e4.trans e5).trans (e6.trans e7)
  have e8A := e9.trans eA
  have e3A := e37.trans (e8.trans e8A)
  have hdA := e3A.fr dp _ upd_same (nrd dp) (by intro _ h; cases h)
  have hw3 : upd H1 dp (.dK []) wl = some (.lst ((widesOf ns).map V.int)) := by rw [upd_ne hdw.symm]; exact hw1
  have hwA := e3A.fr wl _ hw3 (nrd wl) (by intro _ h; cases h)
  have hc8 := st8.gd.gh _ _ gc
  rw [repL_ints rc_] at hc8
  have hcA := e8A.fr cl _ hc8 (nrd cl) (by intro _ h; cases h)
  have ncl3 := e37.tr cl ncl
  have hcd : dp ≠ cl := fun z => by rw [← z, upd_same] at ncl3; cases ncl3
  have hcw : wl ≠ cl := fun z => by rw [← z, hw3] at ncl3; cases ncl3
  have ncl1 : H1 cl = none := by rw [upd_ne hcd.symm] at ncl3; exact ncl3
  refine ⟨hdA, [(.inr "wide", .ref wl), (.inr "left", .int 0), (.inr "cells", .ref cl), (.inr "turn", .int 0)], rfl, by simp, ?_⟩
  show D.rt _ _
  rw [hD]
  have ne : ∀ b, (upd H1 dp (.dK [])) b = none → H0 b = none := fun b hb => by
    by_cases h : b = dp
    · subst h; exact ndp0
    · rw [upd_ne h] at hb; exact e1.tr b hb
  refine hq dp wl cl _ hdw hcd hcw ndp0 nw (e1.tr cl ncl1) (fun b o hb => ?_) (fun b hb => ?_) ⟨?_, ?_, ?_⟩
  · have h : b ≠ dp := ne_of_none hb ndp0
    rw [upd_ne h]
    by_cases nt : NoTbl o
    · refine e3A.fr b o ?_ (nrd b) nt
      rw [upd_ne h]
      exact e1.fr b o hb (nrd b) nt
    · obtain ⟨ps, hp⟩ := Classical.not_forall.mp nt
      have hp := Classical.not_not.mp hp
      subst hp
      exact stA.gd.w b ps hb
  · by_cases h : b = dp
    · subst h; rw [upd_same] at hb; cases hb
    · rw [upd_ne h] at hb; exact ne b (e3A.tr b hb)
  · rw [upd_same]; rfl
  · rw [upd_ne hdw.symm]; exact hwA
  · rw [upd_ne hcd.symm]; exact hcA
end
end DL
set_option Elab.async false
set_option linter.all false
set_option maxRecDepth 100000
set_option maxHeartbeats 4000000
set_option autoImplicit false
namespace DL
open PySem PySem.Spec PyProof.Rows L2
/-! ### a law by its body -/
theorem drF_ofT {L : LamI} {K : PySem.W.Frag} {cad : Str → Addr} {dp wl cl : Addr} {cells : List Int} {T : List (Addr × Str)} {G H : Hp} {E : XK} (hd : dp ≠ wl ∧ dp ≠ cl ∧ wl ≠ cl) : DrF (fxOf (drawCcL L K cad dp wl cl cells T) G H E) dp wl cl cells :=
  ⟨rfl, rfl, rfl, fun _ _ h => h.1, fun s s' H a o o' r _ e nf h => ⟨h, tabs_keep (fun b u q f => by
    rw [upd_ne (fun z : b = a => by subst z; rw [e] at q; cases q; exact nf f)]; exact q) r.2⟩, fun _ => Iff.rfl, hd.1, hd.2.1, hd.2.2⟩
def spLaw (K : PySem.W.Frag) : Sp := fun vs H Q _ => ∃ (a : Addr) (ns : List Int), vs = [.ref a] ∧ SqL K H a (ns.map V.int) ∧ ns.length ≤ 3000 ∧ ∀ H', Q (.bl true) H'
def tRestL (L : LamI) (K : PySem.W.Frag) (cad : Str → Addr) (H0 : Hp) (E : XK) (T : List (Addr × Str)) (rd : List Int → Env → M DrS Flw) : TS := fun D σ H1 => ∃ dp wl cl cells, (dp ≠ wl ∧ dp ≠ cl ∧ wl ≠ cl) ∧ tS (fxOf (drawCcL L K cad dp wl cl cells T) (noT H0) H1 E) (rd cells) D σ H1
theorem pss_restL {L : LamI} {X : Cx} {rest : List Stmt} {K : PySem.W.Frag} {cad : Str → Addr} {H0 : Hp} {E : XK} {T : List (Addr × Str)} {rd : List Int → Env → M DrS Flw} (h : ∀ (H1 : Hp) (dp wl cl : Addr) (cells : List Int), (dp ≠ wl ∧ dp ≠ cl ∧ wl ≠ cl) → PSs X rest (tS (fxOf (drawCcL L K cad dp wl cl cells T) (noT H0) H1 E) (rd cells))) :
    PSs X rest (tRestL L K cad H0 E T rd) := ⟨fun pins s σ H D I q => by
  obtain ⟨dp, wl, cl, cells, hd, q⟩ := q
  exact (h H dp wl cl cells hd).run pins s σ H D I q⟩
theorem law_ofL {L : LamI} {K : PySem.W.Frag} {cad : Str → Addr} {H0 : Hp} {E E' : XK} {T : List (Addr × Str)} {rd : List Int → Env → M DrS Flw} {N : List Str} {a : Addr} {ns : List Int} {Q : VK} {D : Ends} (hD : D.rt = Q) (hs : SqL K H0 a (ns.map V.int)) (hl : ns.length ≤ 3000) (hT : LamX.Tabs T H0) (hq : ∀ H', Q (.bl true) H')
    (hrd : ∀ (cells : List Int) (s : DrS), ∃ s', rd cells ((startE N [.scr ns]).set 1 (some (.val (.hnd 0)))) s = .ok (.rt (.bl true)) s') :
    tSeq (tAsg (tCall (spBegun K) [] E' (tCons (tVar 0) tNil)) (gName 1)) (tRestL L K cad H0 E T rd) D (L2.start N [.ref a]) H0 := by
  refine ⟨.ref a, rfl, a, ns, rfl, hs, hl, fun dp wl cl H' h1 h2 h3 n1 n2 n3 hsm htr hr => ?_⟩
  refine ⟨dp, wl, cl, ns.map absI, ⟨h1, h2, h3⟩, noT H0, (startE N [.scr ns]).set 1 (some (.val (.hnd 0))), ⟨widesOf ns, 0, 0⟩, ?_, ?_⟩
  · have st : StG (fxOf (drawCcL L K cad dp wl cl (ns.map absI) T) (noT H0) H' E) (noT H0) (L2.start N [.ref a]) H' (startE N [.scr ns]) ⟨widesOf ns, 0, 0⟩ :=
      ⟨Ext.refl _ _ _, ⟨(noT_same H0).trans hsm, ⟨hr, hT.ext hsm⟩, fun b hb => by
        have hb : b = dp ∨ b = wl ∨ b = cl := hb
        rcases hb with rfl | rfl | rfl <;> exact noT_none (by assumption), noT_nt _⟩, repEnv_start (RepL.one ⟨a, rfl, noT_sq hs⟩)⟩
    exact st.set 1 (d := .hnd 0) rfl
  · obtain ⟨s', e⟩ := hrd (ns.map absI) ⟨widesOf ns, 0, 0⟩
    rw [e]
    intro v G' H2 _ _ _ rv
    have rv : v = .bl true := rv
    subst rv
    show D.rt _ _
    rw [hD]
    exact hq H2
theorem walk_ofEW {l : PySem.W.OpenLaw} {n k : Nat} {q : Program} {loose : List Str} {XP : (Str → Option Value) → Heap → Prop} {YP : World → Heap → Prop} {d : DefRec} {x : Str}
    (hn : l.most = some n) (hn2 : n ≤ sizeLine) (hdf : d.params.defaults = []) (hr : Room k callerA)
    (F : ∀ (w : World) (mg : Str → Option Value) (fa : Addr) (h : Heap), YP w h → h.Ns mainGlobals mg → mg d.name = some (.ref fa) →
      ∃ (K : PySem.W.Frag) (fd : FuncData) (sp : Sp), K.In h ∧ (∀ (s : Shared) (u : Value), BindsTo s fd ⟨[u], []⟩ [(x, u)]) ∧
        (∀ (H : Hp) (a : Addr) (ns : List Int), ns.length ≤ n → Only H → SqL K H a (ns.map V.int) → sp [.ref a] H (fun v _ => v = .bl true) fun _ _ _ => False) ∧
        ∀ base : Heap, K.In base → base.Ns mainGlobals mg → FnOk l.prog w K mg base (L2.CX l.prog w) k fa fd [x] sp) :
    PySem.W.WalkO q loose XP YP l.row.toRowW d [] (fun f vs => PySem.call f vs) := by
  refine Att.attach_call hn hdf fun w s₀ s₁ mg mb fa o pm cd doc a vs ns G Y ho hd hcd hmg hobj hints hlen hg => ?_
  obtain ⟨K, fd, sp, KX, hb, hsp, hF⟩ := F w mg fa _ Y G.T.g hmg
  refine law_call KX G.T.g G.T.b G.T.builtins G.T.nolimit hg hobj hints (Nat.le_trans hlen hn2) hr hF hb (fun H hO hS => hsp H a ns hlen hO hS) fun H e s' z => ?_
  obtain ⟨_, _, _, _, _, _, _, _, _, _, _, _, z⟩ := z
  exact z
/-! ### a head's facts, as one truth -/
section
variable {K : PySem.W.Frag}
theorem propB_ok {C : Addr} {f : Str} (h : propB K C f = true) : PropOf K C f (He.ma K C f) (He5.wf K C "property" f) := by
  obtain ⟨h1, h⟩ := He.ba h
  obtain ⟨h2, h⟩ := He.ba h
  obtain ⟨h3, h4⟩ := He.ba h
  refine ⟨He.eqO_ok h1, He.eqO_ok h2, of_decide_eq_true h3, ?_⟩
  unfold He5.wf
  split at h4
  · rename_i g r e
    exact ⟨r, by rw [e]⟩
  · cases h4
theorem insB_ok {x : Str} (h : insB K x = true) : InsOk K (He.ga K x) := by
  obtain ⟨h1, h⟩ := He.ba h
  obtain ⟨h2, h⟩ := He.ba h
  obtain ⟨h3, h⟩ := He.ba h
  obtain ⟨h4, h5⟩ := He.ba h
  exact ⟨He.cls_ok h1, He.eqO_ok h2, He.eqO_ok h3, of_decide_eq_true h4, of_decide_eq_true h5⟩
theorem kitB_ok {cs : List Str} {an : Value → Option Bool} {tr fa : List Str} (h : kitB K cs an (tbOf tr fa) = true) (hi : cs.all (insB K) = true) (ht : ∀ c ∈ tr, c ∉ tyNames → c ∈ cs) (hf : ∀ c ∈ fa, c ∉ tyNames → c ∈ cs) : KitOk K (He.ga K) an (tbOf tr fa) := by
  obtain ⟨h1, h2⟩ := He.ba h
  refine ⟨fun t hm b e => ?_, fun c b e hn => ?_⟩
  · have := List.all_eq_true.mp h1 t hm
    rw [e] at this
    exact of_decide_eq_true this
  · have hc : c ∈ cs := by
      unfold tbOf at e
      split at e
      · rename_i z; exact ht c z hn
      · split at e
        · rename_i z; exact hf c z hn
        · cases e
    refine ⟨insB_ok (List.all_eq_true.mp hi c hc), ?_⟩
    have := List.all_eq_true.mp h2 c hc
    rw [e] at this
    exact of_decide_eq_true this
theorem kit_own {cs : List Str} {ty : List Str} (h : ∀ c ∈ ty, c ∈ tyNames) : ∀ c ∈ ty ++ cs, c ∉ tyNames → c ∈ cs := fun c hc hn => by
  rcases List.mem_append.mp hc with q | q
  · exact absurd (h c q) hn
  · exact q
/-! ### the hook: facts as a list of truths, defs as data -/
variable {fb : PySem.W.Frag → List Bool} {fn : List He5.DefA}
theorem SaysB.fact (c : SaysB fb fn K) (i : Nat) {b : Bool} (h : (fb K)[i]? = some b := by rfl) : b = true := by
  have c1 := (He.ba (show ((fb K).all id && fn.all fun d => d.ok K) = true from congrArg (fun z : He.AlD => z.1) c)).1
  exact List.all_eq_true.mp c1 b (List.mem_of_getElem? h)
theorem SaysB.def_ (c : SaysB fb fn K) (i : Nat) {d : He5.DefA} (h : fn[i]? = some d := by rfl) : ∃ fd, L2.FunD K d.name d.qual d.params d.body d.scope (d.dvs K) (d.kws K) (d.at_ K) fd := by
  have c2 := (He.ba (show ((fb K).all id && fn.all fun d => d.ok K) = true from congrArg (fun z : He.AlD => z.1) c)).2
  have e : fn.map (fun d => He5.fnA K (d.at_ K)) = fn.map He5.DefA.val := congrArg (fun z : He.AlD => z.2) c
  have e2 : (fn.map fun d => He5.fnA K (d.at_ K))[i]? = (fn.map He5.DefA.val)[i]? := by rw [e]
  rw [List.getElem?_map, List.getElem?_map, h] at e2
  exact He5.DefA.funD (Option.some.inj e2) (List.all_eq_true.mp c2 d (List.mem_of_getElem? h))
theorem SaysB.fun_ (c : SaysB fb fn K) (i : Nat) {a : PySem.W.Frag → Addr} {x qual : Str} {st : Stmt} (h : fn[i]? = some (defA a x qual st) := by rfl) : ∃ fd, Fun K x qual st (a K) fd := by
  obtain ⟨fd, F⟩ := c.def_ i h
  exact ⟨fd, He5.fun_of F⟩
end
end DL
set_option Elab.async false
set_option linter.all false
set_option maxRecDepth 100000
set_option maxHeartbeats 4000000
set_option autoImplicit false
/-! more of the ends: defs with defaults, instances that are called -/
namespace DL
open PySem PySem.Spec PyProof.Rows L2
section
variable {K : PySem.W.Frag}
theorem callB_ok {C g : Addr} (h : callB K C g = true) : StX.CallO K C g := by
  obtain ⟨h1, h⟩ := He.ba h
  obtain ⟨h2, h3⟩ := He.ba h
  exact ⟨He.eqO_ok h1, h2, h3⟩
theorem binds_all {x qual : Str} {params : Arguments} {body : List Stmt} {scope : Scope} {dvs : List V} {f : Addr} {fd : FuncData} {ps : List Str} (F : FunD K x qual params body scope dvs [] f fd) (n : Nat) (hd : dvs ≠ []) (hn : n = ps.length)
    (h : ∀ (T : Addr) (kV doc pm : Value) (an : Option Addr) (cdv ct : Value) (us its : List Value), us.length = n → its.length = dvs.length →
      ∃ k, bindArgs (PySem.W.fnOf x qual params body scope (.ref T) kV doc pm an cdv ct) ⟨us, []⟩ = seqItems? (.ref T) >>= k ∧ k (some its.toArray) = pure (ps.zip us)) : Binds K fd ps [] := by
  obtain ⟨ds, v, b⟩ := F.binds1 (ps := ps) n dvs.length hd (by omega) fun T kV doc pm an cdv ct us its l1 l2 => by
    obtain ⟨k, e1, e2⟩ := h T kV doc pm an cdv ct us its l1 l2
    exact ⟨k, e1, by rw [e2, ← l2, List.drop_length, List.append_nil]⟩
  rw [List.drop_length] at v
  cases v
  exact b
end
end DL
set_option Elab.async false
set_option linter.all false
set_option maxRecDepth 100000
set_option maxHeartbeats 4000000
set_option autoImplicit false
/-! DL: a def's promise where no repr is under way; the law's call, told so -/
namespace DL
open PySem PySem.Spec PyProof.Rows L2
/-- as FnOk, for callers under which no repr runs -/
structure FnG (P : Program) (w : World) (K : PySem.W.Frag) (mg : Str → Option Value) (base : Heap) (CX : CXT) (k : Nat) (f : Addr) (fd : FuncData) (ps : List Str) (sp : Sp) : Prop where
  len : ∀ vs H Q E, sp vs H Q E → vs.length = ps.length
  run : ∀ (A : Around) (outer : List PySem.Env) (s : Shared) (H : Hp) (args : Args) (us : List Value) (vs : List V) (Q : VK) (E : XK), A.guards = some [] → Room k A → Env0 P w K mg base A outer s H → BindsTo s fd args (ps.zip us) → Vals vs us → sp vs H Q E →
    codeAny (model P w) A (.call (.ref f) args) (CR CX outer P w H s Q E) s
section
variable {P : Program} {w : World} {K : PySem.W.Frag} {mg : Str → Option Value} {base : Heap}
theorem FnG.of {CX : CXT} {k : Nat} {f : Addr} {fd : FuncData} {ps : List Str} {sp : Sp} (F : FnOk P w K mg base CX k f fd ps sp) : FnG P w K mg base CX k f fd ps sp := ⟨F.len, fun A outer s H args us vs Q E _ => F.run A outer s H args us vs Q E⟩
end
end DL
set_option Elab.async false
set_option linter.all false
set_option maxRecDepth 100000
set_option maxHeartbeats 4000000
set_option autoImplicit false
/-! DL: facts of exception classes as truths; tuples as targets of comprehensions; a list many times -/
namespace DL
open PySem PySem.Spec PyProof.Rows L2
section
variable {S : Type} {X : Cx} {F : Fx S}
/-! ### a, b, .. as a comprehension's target -/
def gNms : List Nat → TGs
  | [] => gNil
  | i :: is => gCons (gName i) (gNms is)
theorem pgs_nm {e : Expr} {es : List Expr} {i : Nat} {is : List Nat} (h1 : PG X e (gName i)) (h2 : PGs X es (gNms is)) (hs : (assignEach (e :: es) X.env).map (·.2) = assign e X.env :: (assignEach es X.env).map (·.2) := by rfl) : PGs X (e :: es) (gNms (i :: is)) := pgs_cons h1 h2 hs
theorem pgs_n0 : PGs X [] (gNms []) := pgs_nil
/-! ### a list many times -/
def repD : D → D → M S D := fun x y => onLst (fun ds => onInt (fun k => grd (0 ≤ k ∧ k ≤ 1000 ∧ ds.length ≤ 1000) (pure (.lst (List.replicate k.toNat ds).flatten))) y) x
theorem RepL.many {C : Cc S} {G : Hp} {ds : List D} {vs : List V} (r : RepL C G ds vs) : ∀ n : Nat, RepL C G (List.replicate n ds).flatten (List.replicate n vs).flatten
  | 0 => rfl
  | n + 1 => by
    rw [List.replicate_succ, List.replicate_succ, List.flatten_cons, List.flatten_cons]
    exact r.append (r.many n)
theorem od_rep : OpD F rRep repD := fun G σ H env s d e x y Q st rx ry p => by
  obtain ⟨ds, rfl, p1⟩ := p.onLst
  obtain ⟨k, rfl, p2⟩ := p1.onInt
  obtain ⟨⟨h1, h2, h3⟩, p3⟩ := p2.grd
  cases ry
  obtain ⟨a, vs, rfl, q, z, r⟩ := rx
  have hm : vs.length * k.toNat ≤ 1000 * 1000 := Nat.mul_le_mul (by rw [r.length]; exact h3) (by omega)
  refine ⟨a, k, vs, rfl, rfl, st.gd.gh _ _ q, by omega, by omega, by rw [sizeLine_eq]; omega, fun p np => ?_⟩
  obtain ⟨e2, st2⟩ := st.new np (.lst (List.replicate k.toNat vs).flatten)
  refine p3 _ _ _ e2 st2 ⟨p, _, rfl, upd_same, ?_, (r.many k.toNat).mono e2.g⟩
  rw [(r.many k.toNat).length, List.length_flatten]
  simp only [List.map_replicate, List.sum_replicate_nat]
  rw [sizeLine_eq]
  have : k.toNat * ds.length ≤ 1000 * 1000 := Nat.mul_le_mul (by omega) h3
  omega
end
end DL
namespace DL
open PySem PySem.Spec PyProof.Rows L2
end DL
set_option Elab.async false
set_option linter.all false
set_option maxRecDepth 100000
set_option maxHeartbeats 4000000
set_option autoImplicit false
/-! DL: raise; an error that is caught and kept -/
namespace DL
open PySem PySem.Spec PyProof.Rows L2
/-! ### an exception object is tracked from now on -/
end DL
set_option Elab.async false
set_option linter.all false
set_option maxRecDepth 100000
set_option maxHeartbeats 4000000
set_option autoImplicit false
/-! DL: a lambda handed to a def: the library's two rules (HandS.Lambda), turned so that they tell that nothing is lost -/
namespace DL
open PySem PySem.Spec PyProof.Rows L2 LamX
end DL
namespace DL
open PySem PySem.Spec PyProof.Rows L2 LamX
/-! ### caught: found = None / try: work() / except x as error: found = error / return found -/
end DL
set_option Elab.async false
set_option linter.all false
set_option maxRecDepth 100000
set_option maxHeartbeats 4000000
set_option autoImplicit false
/-! DL: caught(lambda: work): the error that some work raises, or None -/
namespace DL
open PySem PySem.Spec PyProof.Rows L2 LamX
end DL
set_option Elab.async false
set_option linter.all false
set_option maxRecDepth 100000
set_option maxHeartbeats 4000000
set_option autoImplicit false
/-! DL: calls by keywords alone; a classmethod called of its class; a class held in a local called -/
namespace DL
open PySem PySem.Spec PyProof.Rows L2
variable {S : Type} {X : Cx} {F : Fx S}
/-! ### keywords -/
/-- the values at ix -/
def perm {α : Type} (ix : List Nat) (xs : List α) : List α := ix.filterMap fun i => xs[i]?
theorem RepL.perm {C : Cc S} {G : Hp} {ds : List D} {vs : List V} (r : RepL C G ds vs) : ∀ ix : List Nat, RepL C G (DL.perm ix ds) (DL.perm ix vs)
  | [] => rfl
  | i :: ix => by
    unfold DL.perm
    cases h : ds[i]? with
    | none =>
      have h2 : vs[i]? = none := by
        rw [List.getElem?_eq_none_iff] at h ⊢
        rw [r.length]; exact h
      rw [List.filterMap_cons_none h, List.filterMap_cons_none h2]; exact RepL.perm r ix
    | some d =>
      obtain ⟨v, h2, q⟩ := r.get h
      rw [List.filterMap_cons_some h, List.filterMap_cons_some h2]; exact .cons q (RepL.perm r ix)
/-! ### a classmethod of the class at C, told by the handle h -/
/-! ### x(..), x a local that holds the class c, told by the handle h -/
end DL
set_option Elab.async false
set_option linter.all false
set_option maxRecDepth 100000
set_option maxHeartbeats 4000000
set_option autoImplicit false
/-! DL: a law that makes lambdas: its code object and the table of it -/
namespace DL
open PySem PySem.Spec PyProof.Rows L2 LamX
/-! ### the hook: as hookB, with the law's table: empty, not in K -/
section
variable {fb : PySem.W.Frag → List Bool} {fn : List He5.DefA}
def cTl (K : PySem.W.Frag) : Addr × Addr := He.cT K ("law", none)
end
abbrev Tl (K : PySem.W.Frag) : List (Addr × Str) := [((cTl K).2, ("law" : Str) ++ ".<locals>." ++ "<lambda>")]
/-! ### the world of the draws with tables -/
end DL
set_option Elab.async false
set_option linter.all false
set_option maxRecDepth 100000
set_option maxHeartbeats 4000000
set_option autoImplicit false
/-! DL: defs with defaults; how keywords bind -/
namespace DL
open PySem PySem.Spec PyProof.Rows L2
end DL
set_option Elab.async false
set_option linter.all false
set_option maxRecDepth 100000
set_option maxHeartbeats 4000000
set_option autoImplicit false
/-! DL: sorted, of a tuple of ints too -/
namespace DL
open PySem PySem.Spec PyProof.Rows L2
end DL
set_option Elab.async false
set_option linter.all false
set_option maxRecDepth 100000
set_option maxHeartbeats 4000000
set_option autoImplicit false
/-! DL: a list of one's own walked in a comprehension, added to, its greatest item; stars in displays; range downwards; x -= 1; tuples many times -/
namespace DL
open PySem PySem.Spec PyProof.Rows L2
section
variable {S : Type} {X : Cx} {F : Fx S}
/-! ### comprehensions over what stays outside the world -/
def ItDx (F : Fx S) (G H : Hp) (J : It) (ds : List D) : Prop := ∀ G' H' s, Ext F.reg G H G' H' → Gd F.toCc G' H' s →
  (∀ (i : Nat) (d : D), ds[i]? = some d → J.go i H' ∧ ∀ x H2, J.yld i H' x H2 → ∃ G2, Ext F.reg G' H' G2 H2 ∧ Gd F.toCc G2 H2 s ∧ Rep F.toCc G2 d x) ∧ (∀ i, ds.length ≤ i → J.stop i H')
def tIx (F : Fx S) (ι : Env → M S (List D)) : TI := fun σ H R => ∃ G env s, StG F G σ H env s ∧
  Post F G H (ι env s) fun ds s' => ∀ J G' H', Ext F.reg G H G' H' → StG F G' σ H' env s' → ItDx F G' H' J ds → R J H'
theorem tLcx_of {own : List Nat} {ι : Env → M S (List D)} {γ : D → Env → M S Env} {t : Env → M S Bool} {e : Env → M S D} {g : TG} (hg : GW F.calm own g γ) (σ : L2.St) (H : Hp) (Q : VK) (h : tE F (cmp own ι γ t e) σ H Q) :
    tLc (tIx F ι) g (tT F.calm t) (tE F.calm e) own σ H Q := by
  obtain ⟨G, env, s, st, p⟩ := h
  refine ⟨G, env, s, st, (Post.bind p).mono fun ds s1 _ hk J G1 H1 e1 st1 it => ?_⟩
  obtain ⟨hz, hk⟩ := Post.grd hk
  obtain ⟨ys, sE, hys, hk⟩ := calm_ok (Post.bind hk)
  intro Dl nD
  obtain ⟨gd2, e2⟩ := st1.gd.open_ nD (.lst [])
  have nrD : ¬ F.reg Dl := fun z => by
    obtain ⟨u, e⟩ := F.there s1 H1 Dl st1.gd.w z
    rw [nD] at e; cases e
  refine ⟨fun i m H => m = ds.length - i ∧ ∃ G s acc, i ≤ ds.length ∧ Acc F G1 H1 Dl G H acc i ∧ Gd F.toCc G H s ∧ ∃ rest, cmpL γ t e (wipeE env own) (ds.drop i) s = .ok rest sE ∧ ys = acc ++ rest,
    ⟨_, rfl, G1, s1, [], Nat.zero_le _, ⟨e2, nD, nrD, ⟨[], upd_same, rfl⟩, st1.gd.gh.free nD, Nat.le_refl _⟩, gd2, ys, hys, rfl⟩, ?_⟩
  rintro i m H' ⟨rfl, G', s', acc, hi, A, gd', rest, hr, hy⟩
  have st' : StG F G' σ H' env s' := st1.ext' A.ext gd'
  obtain ⟨go, stop⟩ := it G' H' s' A.ext gd'
  obtain ⟨vs, hD, rv⟩ := A.at_
  by_cases hlt : i < ds.length
  · obtain ⟨gi, y⟩ := go i ds[i] (by simp [hlt])
    refine .inr ⟨gi, fun H2 => ∃ G s acc, i + 1 ≤ ds.length ∧ Acc F G1 H1 Dl G H2 acc (i + 1) ∧ Gd F.toCc G H2 s ∧ ∃ rest, cmpL γ t e (wipeE env own) (ds.drop (i + 1)) s = .ok rest sE ∧ ys = acc ++ rest, fun H2 h => ⟨_, by omega, rfl, h⟩, fun x H2 hy2 => ?_⟩
    obtain ⟨G2, ex2, g2, r2⟩ := y x H2 hy2
    have st2 : StG F.calm G2 (wipe σ own) H2 (wipeE env own) s' := ((st'.ext' ex2 g2).wipe own).calm
    rw [List.drop_eq_getElem_cons hlt] at hr
    obtain ⟨env3, s3, q3, hr⟩ := bind_ok hr
    refine hg σ G2 H2 (wipeE env own) s' ds[i] x _ st2 r2 ?_
    rw [q3]
    intro σ3 G3 H3 ex3 hw3 st3
    refine ⟨hw3, ?_⟩
    obtain ⟨b, s4, q4, hr⟩ := bind_ok hr
    refine ⟨G3, env3, s3, st3, ?_⟩
    rw [q4]
    intro G4 H4 ex4 st4
    have exA : Ext F.reg G' H' G4 H4 := (ex2.trans ex3).trans ex4
    cases b with
    | false =>
      rw [if_neg Bool.false_ne_true]
      exact ⟨G4, s4, acc, hlt, ⟨A.ext.trans exA, A.h1, A.nr, ⟨vs, exA.fr _ _ hD nrD (by intro _ h; cases h), rv.mono exA.g⟩, exA.un hD A.gn nrD, Nat.le_succ_of_le A.len⟩, st4.gd, rest, hr, hy⟩
    | true =>
      rw [if_pos rfl]
      obtain ⟨d5, s5, q5, hr⟩ := bind_ok hr
      obtain ⟨rs, s6, q6, hr⟩ := bind_ok hr
      refine ⟨G4, env3, s4, st4, ?_⟩
      rw [q5]
      intro v5 G5 H5 ex5 st5 r5
      have exB : Ext F.reg G' H' G5 H5 := exA.trans ex5
      have hD5 := exB.fr _ _ hD nrD (by intro _ h; cases h)
      have gn5 := exB.un hD A.gn nrD
      have hal := A.len
      refine ⟨vs, hD5, by rw [rv.length]; exact Nat.lt_of_lt_of_le (Nat.lt_of_le_of_lt hal hlt) hz, ?_⟩
      have gd6 := st5.gd.write hD5 gn5 nrD (.lst (vs ++ [v5]))
      have eC : Ext F.reg G1 H1 G5 H5 := A.ext.trans exB
      cases hr
      refine ⟨G5, s5, acc ++ [d5], hlt, ⟨⟨eC.g, fun b o q n nt => ?_, eC.nw, fun b q => ?_⟩, A.h1, A.nr, ⟨_, upd_same, (rv.mono exB.g).append (RepL.one r5)⟩, gn5, ?_⟩, gd6, rs, q6, by rw [hy, List.append_assoc]; rfl⟩
      · rw [upd_ne (ne_of_none q A.h1)]; exact eC.fr b o q n nt
      · by_cases hb : b = Dl
        · subst hb; rw [upd_same] at q; cases q
        · rw [upd_ne hb] at q; exact eC.tr b q
      · rw [List.length_append, List.length_singleton]; omega
  · rw [List.drop_eq_nil_of_le (by omega)] at hr
    cases hr
    rw [List.append_nil] at hy
    subst hy
    refine .inl ⟨stop i (by omega), ?_⟩
    have gdF := gd'.freeze hD nrD
    have eF : Ext F.reg G1 H1 (upd G' Dl (.lst vs)) H' := ⟨fun b o q => by rw [upd_ne (ne_of_none (A.ext.g b o q) A.gn)]; exact A.ext.g b o q, A.ext.fr, fun b o q => by
      by_cases hb : b = Dl
      · subst hb; exact .inr (.inl A.h1)
      · rw [upd_ne hb] at q; exact A.ext.nw b o q, A.ext.tr⟩
    refine hk (.ref Dl) _ H' (e1.trans eF) (st1.ext' eF gdF) ⟨Dl, vs, rfl, upd_same, ?_, rv.mono fun b o q => by rw [upd_ne (ne_of_none q A.gn)]; exact q⟩
    rw [rv.length]
    exact Nat.le_trans A.len (Nat.le_trans hi hz)
section
variable {elt tg iter : Expr} {ifs : List Expr} {scope : Scope} {own : List (Str × Nat)} {pos spos : Pos} {g : TG} {ι : Env → M S (List D)} {γ : D → Env → M S Env} {t : Env → M S Bool} {e : Env → M S D}
theorem de_lcx (hc : X.calm = true) (hN : X.N.Nodup) (hi : PI X tg iter (tIx F ι)) (ok : BlkOk X.N X.env.scope scope own) (gw : GW F.calm (own.map (·.2)) g γ)
    (hg : ∀ (s : Shared) (H : Hp) (C : Addr) (cl : List (Str × Addr)) (fp : List Addr), PG (X.blk s H scope (compEnvC scope cl C X.env) fp) tg g) (ht : ∀ (s : Shared) (H : Hp) (C : Addr) (cl : List (Str × Addr)) (fp : List Addr), PTs (X.blk s H scope (compEnvC scope cl C X.env) fp) ifs (tT F.calm t))
    (he : ∀ (s : Shared) (H : Hp) (C : Addr) (cl : List (Str × Addr)) (fp : List Addr), PE (X.blk s H scope (compEnvC scope cl C X.env) fp) elt (tE F.calm e)) (hs : ∀ x, foldedSetIterable iter X.env x = pure x := by intro _; rfl) :
    PE X (.ListComp elt [⟨tg, iter, ifs, 0⟩] scope pos) (tE F (cmp (own.map (·.2)) ι γ t e)) := pe_mono (pe_lc hc hN hi ok hg ht he hs) (tLcx_of gw)
end
def ownD (env : Env) (i : Nat) : Option (List D) := match env[i]? with
  | some (some (.own ds)) => some ds
  | _ => none
theorem ownD_at {env : Env} {i : Nat} {ds : List D} (h : ownD env i = some ds) : env[i]? = some (some (.own ds)) := by
  unfold ownD at h
  cases q : env[i]? with
  | none => rw [q] at h; cases h
  | some o =>
    rw [q] at h
    cases o with
    | none => cases h
    | some sl =>
      cases sl with
      | own es => cases h; rfl
      | val _ => cases h
      | obj _ _ => cases h
def iOwn (i : Nat) : Env → M S (List D) := fun env => match ownD env i with
  | some ds => pure ds
  | none => stk
theorem di_own {tg o : Expr} {i : Nat} (hK : X.K = F.K) (ho : PE X o (tVar i)) : PI X tg o (tIx F (iOwn i)) := pi_mono (pi_list ho) fun σ H R ⟨G, env, s, st, p⟩ => by
  have p : Post F G H ((match ownD env i with
    | some ds => pure ds
    | none => stk : M S (List D)) s) _ := p
  cases q : ownD env i with
  | none => rw [q] at p; exact p.elim
  | some ds =>
    rw [q] at p
    obtain ⟨a, vs, hσ, hH, hG, nr, h0, hz, rl⟩ := own_at st (ownD_at q)
    refine ⟨.ref a, hσ, a, rfl, ⟨vs, .inl (.inl hH)⟩, p _ G H (Ext.refl _ _ _) st fun G' H' s' e g => ?_⟩
    have q' : SqL X.K H' a vs := .inl (.inl (e.fr _ _ hH nr (by intro _ h; cases h)))
    refine ⟨fun j d hd => ?_, fun j hj => ⟨vs, q', by rw [rl.length]; exact hj⟩⟩
    obtain ⟨v, hv, rv⟩ := rl.get hd
    refine ⟨⟨vs, v, q', hv⟩, fun x H2 y => ?_⟩
    obtain ⟨rfl, y⟩ := y
    have z := y vs q'
    rw [hv] at z
    cases z
    exact ⟨G', Ext.refl _ _ _, g, rv.mono e.g⟩
/-! ### x = x + e, x a list of one's own -/
/-! ### max, of ints -/
/-! ### [.., *e, ..] -/
/-! ### range(a, b, -1) -/
/-! ### x -= e -/
/-! ### a, b = e, [] where b is a list of one's own -/
def sParO (i j : Nat) (τ : Env → M S D) : Env → M S Flw := fun env => do
  let d ← τ env
  pure (.nx ((env.set i (some (.val d))).set j (some (.own []))))
theorem ds_parO {i j : Nat} {ta tb e : Expr} {τ : Env → M S D} {pl pt pos : Pos} {kt k2 : Nat} {pt2 : Pos} (hc : X.calm = true) (he : PE X e (tE F τ)) (ha : PG X ta (gName i)) (hb : PG X tb (gName j))
    (hs : swapsWithSole [.Tuple [ta, tb] kt pt] (.Tuple [e, .List [] pl] k2 pt2) pos.line X.env = pure false := by rfl) (hw : swappedStores [.Tuple [ta, tb] kt pt] (.Tuple [e, .List [] pl] k2 pt2) X.env = pure none := by rfl)
    (h1 : (assignEach [.Tuple [ta, tb] kt pt] X.env).map (·.2) = [assign (.Tuple [ta, tb] kt pt) X.env] := by rfl)
    (h2 : (assignEach [ta, tb] X.env).map (·.2) = assign ta X.env :: (assignEach [tb] X.env).map (·.2) := by rfl) (h3 : (assignEach [tb] X.env).map (·.2) = assign tb X.env :: (assignEach [] X.env).map (·.2) := by rfl)
    (hn : (assignEach [ta, tb] X.env).length = 2 := by rfl) (hst : (assignEach [ta, tb] X.env).findIdx? (·.1) = none := by rfl)
    (hse : starEach [e, .List [] pl] X.env = (false, eval e X.env) :: starEach [.List [] pl] X.env := by rfl) (hse2 : starEach [.List [] pl] X.env = (false, eval (.List [] pl) X.env) :: starEach [] X.env := by rfl) :
    PS X (.Assign [.Tuple [ta, tb] kt pt] (.Tuple [e, .List [] pl] k2 pt2) pos) (tS F (sParO i j τ)) :=
  ps_mono (ps_asg (pe_tup (pa_cons he (pa_cons (pe_lst pa_nil) pa_nil hse2) hse)) (pg_tup hc (pgs_nm ha (pgs_nm hb pgs_n0 h3) h2) hn hst) hs hw h1) fun D σ H ⟨G, env, s, st, p⟩ => by
    refine seqE st p fun d s1 v G1 H1 e1 st1 r1 p1 => ?_
    refine ⟨Nat.zero_le _, fun q nq => ⟨by show 2 ≤ sizeLine; decide, fun t nt => ?_⟩⟩
    have ntq : t ≠ q := fun z => by rw [z, upd_same] at nt; cases nt
    have nt1 : H1 t = none := by rw [upd_ne ntq] at nt; exact nt
    refine ⟨t, [v, .ref q], rfl, .inl (.inl upd_same), rfl, ?_⟩
    refine ⟨v, [.ref q], rfl, .ref q, [], rfl, rfl, ?_⟩
    -- first the tuple, then the list
    obtain ⟨g2, e2⟩ := st1.gd.open_ nt1 (.tup [v, .ref q])
    have st2 := (st1.ext' e2 g2).set i (r1.mono e2.g)
    have nq2 : upd H1 t (.tup [v, .ref q]) q = none := by rw [upd_ne ntq.symm]; exact nq
    have st3 := st2.own j nq2 (ds := []) (vs := []) rfl (Nat.zero_le _)
    have eH : upd (upd H1 t (.tup [v, .ref q])) q (.lst []) = upd (upd H1 q (.lst [])) t (.tup [v, .ref q]) := by
      funext b
      by_cases hb : b = q
      · subst hb; rw [upd_same, upd_ne ntq.symm, upd_same]
      · rw [upd_ne hb]
        by_cases ht : b = t
        · subst ht; rw [upd_same, upd_same]
        · rw [upd_ne ht, upd_ne ht, upd_ne hb]
    rw [eH] at st3
    exact p1 _ G1 _ e1.g st3
end
end DL
set_option Elab.async false
set_option linter.all false
set_option maxRecDepth 100000
set_option maxHeartbeats 4000000
set_option autoImplicit false
/-! DL: a tuple many times (the library's op_repT with other bounds); C() with a default -/
namespace DL
open PySem PySem.Spec PyProof.Rows L2
end DL
set_option Elab.async false
set_option linter.all false
set_option maxRecDepth 100000
set_option maxHeartbeats 4000000
set_option autoImplicit false
/-! printed by tools/k12.py: readings of fates.py -/
namespace DL
open PySem PySem.Spec PyProof.Rows L2
end DL
set_option Elab.async false
set_option linter.all false
set_option maxRecDepth 100000
set_option maxHeartbeats 4000000
set_option autoImplicit false
/-! DL: dicts of keys (all values True): comprehensions, in, not in -/
namespace DL
open PySem PySem.Spec PyProof.Rows L2
/-! ### keys as data -/
end DL
set_option Elab.async false
set_option linter.all false
set_option maxRecDepth 100000
set_option maxHeartbeats 400000
set_option autoImplicit false
/-! DL: sorted, of a list of tuples of ints -/
namespace DL
/-! ### the order, plain -/
open PySem PySem.Spec PyProof.Rows L2
end DL
set_option Elab.async false
set_option linter.all false
set_option maxRecDepth 100000
set_option maxHeartbeats 400000
set_option autoImplicit false
/-! DL: new lists that are not frozen: comprehensions into slots of their own; xs[::-1] -/
namespace DL
open PySem PySem.Spec PyProof.Rows L2
end DL
set_option Elab.async false
set_option linter.all false
set_option maxRecDepth 100000
set_option maxHeartbeats 4000000
set_option autoImplicit false
/-! printed by tools/k22.py: readings of fates.py, stands.py -/
namespace DL
open PySem PySem.Spec PyProof.Rows L2
end DL
set_option Elab.async false
set_option linter.all false
set_option maxRecDepth 100000
set_option maxHeartbeats 4000000
set_option autoImplicit false
namespace DL
open PySem PySem.Spec PyProof.Rows L2 Rh
section
variable {S : Type} {env : Env}
/-- some of range(n), as the draws will have it -/
theorem Yes.some_of {own : List Nat} {i : Nat} {t : Env → M S Bool} {τ : Env → M S D} {n : Int} (hn : 0 ≤ n) (hn' : n ≤ 3000) (h : IntE τ env (· = n)) (hi : ∀ d, ((wipeE env own).set i (some (.val d)))[i]? = some (some (.val d)))
    (ht : ∀ x : Int, 0 ≤ x → x < n → Yes (t ((wipeE env own).set i (some (.val (.int x))))) fun _ => True) :
    Yes (cmp own (iR1 (aCons τ aNil)) (gNm i) t (rVar i) env) fun d => ∃ rs : List Int, d = .lst (rs.map .int) ∧ rs.Sublist (rngI 0 n) := fun s => by
  obtain ⟨d, s1, e, v, rfl, rfl⟩ := h s
  have hc : Yes (cmpL (gNm i) t (rVar i) (wipeE env own) (rngD 0 v)) fun ys => ys.Sublist (rngD 0 v) := by
    refine Yes.comp fun x hx => ?_
    rw [rngD_eq] at hx
    obtain ⟨m, hm, rfl⟩ := List.mem_map.mp hx
    rw [mem_rngI] at hm
    refine Yes.mono (Yes.of fun s => gNm_run) ?_
    rintro _ rfl
    exact Yes.mono (ht m hm.1 hm.2) fun _ _ => Yes.of fun s => rVar_run (hi _)
  obtain ⟨ys, s2, e2, q⟩ := (Yes.calm hc) s1
  rw [rngD_eq] at q
  obtain ⟨rs, hrs, rfl⟩ := List.sublist_map_iff.mp q
  refine ⟨_, s2, ?_, rs, rfl, hrs⟩
  have hl : (rngD 0 v).length ≤ sizeLine := by rw [rngD_eq, List.length_map, rngI_length]; exact sz3 (by omega)
  rw [cmp_run, iR1_run, aCons_run, e]
  simp only [Res.bind_ok, aNil_run]
  rw [if_pos (show -(2 ^ 62) ≤ v ∧ v < 2 ^ 62 by omega), Res.bind_ok, if_pos hl, e2]
  rfl
theorem wf_sub {n : Int} {rs : List Int} (hn : 1 ≤ n) (h : rs.Sublist (rngI 0 n)) : Wf n rs :=
  ⟨hn, fun r hr => by have := mem_rngI.mp (h.subset hr); omega, ((rngI_sorted 0 n).sublist h).imp fun {a b} z => by omega⟩
end
end DL
set_option Elab.async false
set_option linter.all false
set_option maxRecDepth 100000
set_option maxHeartbeats 4000000
set_option autoImplicit false
/-! printed by tools/k12.py: readings of the helpers of laws over scripts -/
namespace DL
open PySem PySem.Spec PyProof.Rows L2
abbrev N__law_day : List Str := ["_law_draw", "_law_wide", "_law_some"]
def rd__law_day (cells : List Int) : Env → M DrS Flw :=
  (sSeq (sAsg (lstD (aCons (cal (sem__law_take cells) [] 2 (aCons (rVar 0) (aCons (rVar 1) aNil))) (aCons (cal (sem__law_take cells) [] 2 (aCons (rVar 0) (aCons (rVar 1) aNil))) (aCons (bin subD (cal (sem__law_take cells) [] 2 (aCons (rVar 0) (aCons (rC (.int 9)) aNil))) (rC (.int 4))) (aCons (rC (.int 0)) (aCons (bin subD (cal (sem__law_take cells) [] 2 (aCons (rVar 0) (aCons (rC (.int 201)) aNil))) (rC (.int 100))) aNil)))))) (gNm 2)) (sRet (cal (sem__law_pick cells) [] 2 (aCons (rVar 0) (aCons (rVar 2) aNil)))))
def sem__law_day (cells : List Int) : List D → M DrS D := runB (rd__law_day cells) N__law_day
abbrev N__law_rhythm : List Str := ["_law_draw", "_law_base", "_law_size_here", "_law_one", "_law_odds", "_law_rest"]
def rd__law_rhythm (cells : List Int) : Env → M DrS Flw :=
  (sSeq (sAsg (cal (sem__law_pick cells) [] 2 (aCons (rVar 0) (aCons (cmp [3] (iR2 (aCons (rC (.int 1)) (aCons (rC (.int 15)) aNil))) (gNm 3) (asT (bin (eqD false) (bin modD (rVar 1) (rVar 3)) (rC (.int 0)))) (rVar 3)) aNil))) (gNm 2)) (sSeq (sAsg (cal (sem__law_pick cells) [] 2 (aCons (rVar 0) (aCons (lstD (aCons (rC (.int 2)) (aCons (rC (.int 2)) (aCons (rC (.int 3)) (aCons (rC (.int 4)) aNil))))) aNil))) (gNm 4)) (sRet (tupD (aCons (rVar 2) (aCons (bcl tupleD (aCons (cmp [5] (iR1 (aCons (rVar 2) aNil)) (gNm 5) (asT (bin (eqD false) (cal (sem__law_take cells) [] 2 (aCons (rVar 0) (aCons (rVar 4) aNil))) (rC (.int 0)))) (rVar 5)) aNil)) aNil))))))
def sem__law_rhythm (cells : List Int) : List D → M DrS D := runB (rd__law_rhythm cells) N__law_rhythm
abbrev N__law_plain_step : List Str := ["_law_draw", "_law_base", "_law_wide", "_law_word"]
def rd__law_plain_step (cells : List Int) : Env → M DrS Flw :=
  (sSeq (sAsg (cal (sem__law_pick cells) [] 2 (aCons (rVar 0) (aCons (lstD (aCons (rC (.str "shift")) (aCons (rC (.str "shift")) (aCons (rC (.str "keep")) (aCons (rC (.str "strike")) (aCons (rC (.str "strike")) (aCons (rC (.str "from")) (aCons (rC (.str "until")) aNil)))))))) aNil))) (gNm 3)) (sSeq (sIf (asT (bin (eqD false) (rVar 3) (rC (.str "shift")))) (sRet (tupD (aCons (rVar 3) (aCons (cal (sem__law_pick cells) [] 2 (aCons (rVar 0) (aCons (lstD (aCons (rC (.int 1)) (aCons (negD (rC (.int 1))) (aCons (rC (.int 7)) (aCons (negD (rC (.int 7))) (aCons (rC (.int 2)) (aCons (bin subD (cal (sem__law_take cells) [] 2 (aCons (rVar 0) (aCons (rC (.int 21)) aNil))) (rC (.int 10))) aNil))))))) aNil))) aNil)))) sNx) (sSeq (sIf (asT (bin (inD false) (rVar 3) (tupD (aCons (rC (.str "keep")) (aCons (rC (.str "strike")) aNil))))) (sRet (tupD (aCons (rVar 3) (aCons (cal (sem__law_rhythm cells) [] 2 (aCons (rVar 0) (aCons (rVar 1) aNil))) aNil)))) sNx) (sRet (tupD (aCons (rVar 3) (aCons (cal (sem__law_day cells) [] 2 (aCons (rVar 0) (aCons (rVar 2) aNil))) aNil)))))))
def sem__law_plain_step (cells : List Int) : List D → M DrS D := runB (rd__law_plain_step cells) N__law_plain_step
abbrev N__law_steps : List Str := ["_law_draw", "_law_most", "_law_wide", "_law_has_new", "_law_base", "_law_found", "_law_turn", "_law_way", "_law_first", "_law_last", "_law_step", "_law_inner", "_law_more"]
def rd__law_steps (cells : List Int) : Env → M DrS Flw :=
  (sSeq (sParO 4 5 (cal (sem__law_pick cells) [] 2 (aCons (rVar 0) (aCons (lstD (aCons (rC (.int 1)) (aCons (rC (.int 2)) (aCons (rC (.int 3)) (aCons (rC (.int 4)) (aCons (rC (.int 6)) (aCons (rC (.int 7)) (aCons (rC (.int 12)) (aCons (rC (.int 14)) aNil))))))))) aNil)))) (sSeq (sFor (iR1 (aCons (cal (sem__law_take cells) [] 2 (aCons (rVar 0) (aCons (bin addD (rVar 1) (rC (.int 1))) aNil))) aNil)) (gNm 6) (sSeq (sAsg (cal (sem__law_take cells) [] 2 (aCons (rVar 0) (aCons (rC (.int 6)) aNil))) (gNm 7)) (sIf (andT (asT (bin (eqD false) (rVar 7) (rC (.int 0)))) (asT (rVar 3))) (sSeq (sAsg (cal (sem__law_day cells) [] 2 (aCons (rVar 0) (aCons (rVar 2) aNil))) (gNm 8)) (sSeq (sAsg (cal (sem__law_pick cells) [] 2 (aCons (rVar 0) (aCons (lstD (aCons (rC .non) (aCons (bin addD (rVar 8) (cal (sem__law_take cells) [] 2 (aCons (rVar 0) (aCons (rC (.int 15)) aNil)))) (aCons (rVar 8) (aCons (cal (sem__law_day cells) [] 2 (aCons (rVar 0) (aCons (rVar 2) aNil))) aNil))))) aNil))) (gNm 9)) (sApp 5 (tupD (aCons (rC (.str "add")) (aCons (cal (sem__law_rhythm cells) [] 2 (aCons (rVar 0) (aCons (rVar 4) aNil))) (aCons (rVar 8) (aCons (iteE (asT (bin (isND false) (rVar 9) (rC .non))) (rC .non) (bcl min2D (aCons (rC (.int 100)) (aCons (rVar 9) aNil)))) aNil)))))))) (sIf (andT (asT (bin (eqD false) (rVar 7) (rC (.int 1)))) (asT (bin ltD (bcl lenD (aCons (cmp [10] (iOwn 5) (gNm 10) (asT (bin (eqD false) (bin ixD (rVar 10) (rC (.int 0))) (rC (.str "since")))) (rVar 10)) aNil)) (rC (.int 2))))) (sSeq (sAsg (cmp [12] (iR1 (aCons (bin addD (rC (.int 1)) (cal (sem__law_take cells) [] 2 (aCons (rVar 0) (aCons (rC (.int 2)) aNil)))) aNil)) (gNm 12) tYs (cal (sem__law_plain_step cells) [] 3 (aCons (rVar 0) (aCons (rVar 4) (aCons (rVar 2) aNil))))) (gNm 11)) (sApp 5 (tupD (aCons (rC (.str "since")) (aCons (cal (sem__law_day cells) [] 2 (aCons (rVar 0) (aCons (rVar 2) aNil))) (aCons (bcl tupleD (aCons (rVar 11) aNil)) aNil)))))) (sApp 5 (cal (sem__law_plain_step cells) [] 3 (aCons (rVar 0) (aCons (rVar 4) (aCons (rVar 2) aNil))))))))) (sRetO 5)))
def sem__law_steps (cells : List Int) : List D → M DrS D := runB (rd__law_steps cells) N__law_steps
def sem__law_real0 {S : Type} : List D → M S D := fun _ _ => .stk
abbrev N__law_real1 : List Str := ["_law_step", "_law_inner"]
def rd__law_real1 {S : Type} (cs : List Str) : Env → M S Flw :=
  (sSeq (sIf (asT (bin (inD false) (bin ixD (rVar 0) (rC (.int 0))) (tupD (aCons (rC (.str "keep")) (aCons (rC (.str "strike")) (aCons (rC (.str "add")) aNil)))))) (sRet (bin addD (bin addD (slcD (rVar 0) oNone (oSome (rC (.int 1)))) (tupD (aCons (mk "Rhythm" (sem_Rhythm___init__ cs) [] 2 (aCons (bin ixD (bin ixD (rVar 0) (rC (.int 1))) (rC (.int 0))) (aCons (bin ixD (bin ixD (rVar 0) (rC (.int 1))) (rC (.int 1))) aNil))) aNil))) (slcD (rVar 0) (oSome (rC (.int 2))) oNone))) sNx) (sSeq (sIf (asT (bin (eqD false) (bin ixD (rVar 0) (rC (.int 0))) (rC (.str "since")))) (sRet (bin addD (slcD (rVar 0) oNone (oSome (rC (.int 2)))) (tupD (aCons (bcl tupleD (aCons (cmp [1] (iSq (bin ixD (rVar 0) (rC (.int 2)))) (gNm 1) tYs (cal sem__law_real0 [] 1 (aCons (rVar 1) aNil))) aNil)) aNil)))) sNx) (sRet (rVar 0))))
def sem__law_real1 {S : Type} (cs : List Str) : List D → M S D := runB (rd__law_real1 cs) N__law_real1
abbrev N__law_real2 : List Str := ["_law_step", "_law_inner"]
def rd__law_real2 {S : Type} (cs : List Str) : Env → M S Flw :=
  (sSeq (sIf (asT (bin (inD false) (bin ixD (rVar 0) (rC (.int 0))) (tupD (aCons (rC (.str "keep")) (aCons (rC (.str "strike")) (aCons (rC (.str "add")) aNil)))))) (sRet (bin addD (bin addD (slcD (rVar 0) oNone (oSome (rC (.int 1)))) (tupD (aCons (mk "Rhythm" (sem_Rhythm___init__ cs) [] 2 (aCons (bin ixD (bin ixD (rVar 0) (rC (.int 1))) (rC (.int 0))) (aCons (bin ixD (bin ixD (rVar 0) (rC (.int 1))) (rC (.int 1))) aNil))) aNil))) (slcD (rVar 0) (oSome (rC (.int 2))) oNone))) sNx) (sSeq (sIf (asT (bin (eqD false) (bin ixD (rVar 0) (rC (.int 0))) (rC (.str "since")))) (sRet (bin addD (slcD (rVar 0) oNone (oSome (rC (.int 2)))) (tupD (aCons (bcl tupleD (aCons (cmp [1] (iSq (bin ixD (rVar 0) (rC (.int 2)))) (gNm 1) tYs (cal (sem__law_real1 cs) [] 1 (aCons (rVar 1) aNil))) aNil)) aNil)))) sNx) (sRet (rVar 0))))
def sem__law_real2 {S : Type} (cs : List Str) : List D → M S D := runB (rd__law_real2 cs) N__law_real2
abbrev N__law_made : List Str := ["_law_steps_here", "_law_step"]
def rd__law_made {S : Type} (cs : List Str) : Env → M S Flw :=
  (sRet (mk "Script" (sem_Script___init__ cs) [] 1 (aCons (cmp [1] (iSq (rVar 0)) (gNm 1) tYs (cal (sem__law_real2 cs) [] 1 (aCons (rVar 1) aNil))) aNil)))
def sem__law_made {S : Type} (cs : List Str) : List D → M S D := runB (rd__law_made cs) N__law_made
abbrev N__law_flat : List Str := ["_law_steps_here", "_law_found", "_law_step"]
def rd__law_flat {S : Type} : Env → M S Flw :=
  (sSeq (sAsg (lstD aNil) (gNm 1)) (sSeq (sFor (iSq (rVar 0)) (gNm 2) (sAsg (bin addD (bin addD (rVar 1) (lstD (aCons (rVar 2) aNil))) (iteE (asT (bin (eqD false) (bin ixD (rVar 2) (rC (.int 0))) (rC (.str "since")))) (bcl listD (aCons (bin ixD (rVar 2) (rC (.int 2))) aNil)) (lstD aNil))) (gNm 1))) (sRet (rVar 1))))
def sem__law_flat {S : Type} : List D → M S D := runB (rd__law_flat) N__law_flat
end DL
set_option Elab.async false
set_option linter.all false
set_option maxRecDepth 100000
set_option maxHeartbeats 4000000
set_option autoImplicit false
/-! printed by tools/k21.py: dates drawn, scripts put together -/
namespace DL
open PySem PySem.Spec PyProof.Rows L2
abbrev N_Script___add__ : List Str := ["self", "other"]
def rd_Script___add__ {S : Type} (cs : List Str) : Env → M S Flw :=
  (sSeq (sIf (notT (asT (isi (tb_kit_own_Script cs) (rVar 1)))) sNo sNx) (sRet (mk "Script" (sem_Script___init__ cs) [] 1 (aCons (bin addD (fldC "Script" "own_steps" (rVar 0)) (fldC "Script" "own_steps" (rVar 1))) aNil))))
def sem_Script___add__ {S : Type} (cs : List Str) : List D → M S D := runB (rd_Script___add__ cs) N_Script___add__
end DL
set_option Elab.async false
set_option linter.all false
set_option maxRecDepth 100000
set_option maxHeartbeats 4000000
set_option autoImplicit false
/-! DL: sums with a truth value at the left; tuple(x), x a list of one's own -/
namespace DL
open PySem PySem.Spec PyProof.Rows L2
end DL
set_option Elab.async false
set_option linter.all false
set_option maxRecDepth 100000
set_option maxHeartbeats 400000
set_option autoImplicit false
/-! DL: defs that return a new list; lists of one's own: insert, len, freezing; xs.count(n); own __getitem__ -/
namespace DL
open PySem PySem.Spec PyProof.Rows L2
section
variable {S : Type} {X : Cx} {F : Fx S}
/-! ### a def that returns a new list which nothing else holds -/
def FPO (F : Fx S) (G : Hp) (D : Ends) (fl : Flw) (s' : S) : Prop := match fl with
  | .rt d => ∃ es, d = .lst es ∧ ∀ a us G' H', Same G G' → Ext F.reg0 F.G0 F.H0 G' H' → Gd F.toCc G' H' s' → H' a = some (.lst us) → G' a = none → ¬ F.reg a → F.H0 a = none → us.length ≤ sizeLine → RepL F.toCc G' es us → D.rt (.ref a) H'
  | _ => False
theorem FPO.later {G G' : Hp} {D : Ends} {fl : Flw} {s' : S} (h : FPO F G D fl s') (e : Same G G') : FPO F G' D fl s' := by
  cases fl with
  | rt d =>
    obtain ⟨es, rfl, h⟩ := h
    exact ⟨es, rfl, fun a us G2 H2 q => h a us G2 H2 (e.trans q)⟩
  | _ => exact h
/-! ### x = f(..), f such a def -/
/-! ### freezing a list of one's own -/
/-! ### x.insert(k, y), x a list of one's own -/
/-! ### len(x), x a list of one's own -/
/-! ### xs.count(k), numbers -/
/-! ### a[i] by an own __getitem__ -/
end
end DL
set_option Elab.async false
set_option linter.all false
set_option maxRecDepth 100000
set_option maxHeartbeats 400000
set_option autoImplicit false
/-! DL: statements that always go on (no return, break, continue in them) -/
namespace DL
open PySem PySem.Spec PyProof.Rows L2
section
variable {S : Type} {X : Cx} {F : Fx S}
def NxO (τ : Env → M S Flw) : Prop := ∀ env s fl s', τ env s = .ok fl s' → ∃ e, fl = .nx e
theorem NxO.seq {τ υ : Env → M S Flw} (h : NxO τ) (h' : NxO υ) : NxO (sSeq τ υ) := fun env s fl s' q => by
  obtain ⟨f1, s1, q1, q2⟩ := bind_ok q
  obtain ⟨e, rfl⟩ := h env s f1 s1 q1
  exact h' e s1 fl s' q2
theorem NxO.nx : NxO (sNx : Env → M S Flw) := fun env s fl s' q => by cases q; exact ⟨_, rfl⟩
theorem NxO.app {i : Nat} {τ : Env → M S D} : NxO (sApp i τ) := fun env s fl s' q => by
  have q : (match env[i]? with
    | some (some (.own _)) => do
      let d ← τ env
      (match env[i]? with
      | some (some (.own ds)) => grd (ds.length < sizeLine) (pure (.nx (env.set i (some (.own (ds ++ [d]))))))
      | _ => stk)
    | _ => stk : M S Flw) s = .ok fl s' := q
  cases hi : env[i]? with
  | none => rw [hi] at q; cases q
  | some sl =>
    rw [hi] at q
    cases sl with
    | none => cases q
    | some sl =>
      cases sl with
      | val _ => cases q
      | obj _ _ => cases q
      | own ds =>
        obtain ⟨d, s1, q1, q2⟩ := bind_ok q
        by_cases hl : ds.length < sizeLine
        · have q2 : grd (ds.length < sizeLine) (pure (.nx (env.set i (some (.own (ds ++ [d])))))) s1 = Res.ok fl s' := q2
          rw [grd_pos hl] at q2
          cases q2
          exact ⟨_, rfl⟩
        · have q2 : grd (ds.length < sizeLine) (pure (.nx (env.set i (some (.own (ds ++ [d])))))) s1 = Res.ok fl s' := q2
          unfold grd at q2
          rw [if_neg hl] at q2
          cases q2
end
end DL
set_option Elab.async false
set_option linter.all false
set_option maxRecDepth 100000
set_option maxHeartbeats 400000
set_option autoImplicit false
/-! DL: dict(list of pairs), in and not in of dicts with values -/
namespace DL
open PySem PySem.Spec PyProof.Rows L2
end DL
set_option Elab.async false
set_option linter.all false
set_option maxRecDepth 100000
set_option maxHeartbeats 400000
set_option autoImplicit false
/-! DL: lists of one's own in tests; defs that return what another one made new; pairs of new lists; pop -/
namespace DL
open PySem PySem.Spec PyProof.Rows L2
section
variable {S : Type} {X : Cx} {F : Fx S}
/-! ### a test that only looks at lists of one's own -/
/-! ### return f(..), return [..]: what is returned is new -/
theorem NxO.drop {τ : Env → M S D} : NxO (sDrop τ) := fun env s fl s' q => by
  obtain ⟨d, s1, q1, q2⟩ := bind_ok q
  cases q2
  exact ⟨_, rfl⟩
/-! ### list(x), [] as new lists -/
/-! ### a, b = (two new lists) -/
end
end DL
set_option Elab.async false
set_option linter.all false
set_option maxRecDepth 100000
set_option maxHeartbeats 400000
set_option autoImplicit false
/-! DL: found.append(left.pop(k)) -/
namespace DL
open PySem PySem.Spec PyProof.Rows L2
end DL
set_option Elab.async false
set_option linter.all false
set_option maxRecDepth 100000
set_option maxHeartbeats 400000
set_option autoImplicit false
/-! DL: an item of a list of one's own; raise C('m'), C without own __init__ -/
namespace DL
open PySem PySem.Spec PyProof.Rows L2
section
variable {S : Type} {X : Cx} {F : Fx S}
def ixO (i : Nat) (κ : Env → M S D) : Env → M S D := fun env => match ownD env i with
  | some ds => do
    match ← κ env with
    | .int k => (match atI ds k with
      | some x => pure x
      | none => stk)
    | _ => stk
  | none => stk
theorem de_ixO {i : Nat} {o e : Expr} {κ : Env → M S D} {pos : Pos} (ho : PE X o (tVar i)) (he : PE X e (tE F κ)) (hs : PlainIx e := by exact fun _ _ => rfl) : PE X (.Subscript o e pos) (tE F (ixO i κ)) := pe_mono (pe_ix ix_seq ho he hs) fun σ H Q ⟨G, env, s, st, p⟩ => by
  have p : Post F G H ((match ownD env i with
    | some ds => do
      match ← κ env with
      | .int k => (match atI ds k with
        | some x => pure x
        | none => stk)
      | _ => stk
    | none => stk : M S D) s) _ := p
  cases q : ownD env i with
  | none => rw [q] at p; exact p.elim
  | some ds =>
    rw [q] at p
    have hi := ownD_at q
    obtain ⟨a, vs, hσ, hH, _, _, _, _, _⟩ := own_at st hi
    refine ⟨.ref a, hσ, ?_⟩
    refine seqE st p fun d s1 v G1 H1 e1 st1 r1 p1 => ?_
    obtain ⟨a', vs1, hσ1, hH1, hG1, nr1, h01, hz1, rl1⟩ := own_at st1 hi
    rw [hσ] at hσ1
    cases hσ1
    cases d with
    | int k =>
      cases hd : atI ds k with
      | none => simp only [hd] at p1; exact p1.elim
      | some x =>
        simp only [hd] at p1
        obtain ⟨w, hw, rw_⟩ := atI_rep rl1 hd
        obtain rfl : v = .int k := r1
        exact .inl ⟨a, vs1, k, w, rfl, rfl, .inl (.inl hH1), hw, p1 w G1 H1 e1 st1 rw_⟩
    | _ => exact p1.elim
/-! ### raise C('m') -/
end
end DL
set_option Elab.async false
set_option linter.all false
set_option maxRecDepth 100000
set_option maxHeartbeats 400000
set_option autoImplicit false
/-! DL: expressions that look at lists of one's own and hold none; parts of a list of one's own; own.pop(); C(k = v) -/
namespace DL
open PySem PySem.Spec PyProof.Rows L2
/-! ### values without lists -/
end DL
set_option Elab.async false
set_option linter.all false
set_option maxRecDepth 100000
set_option maxHeartbeats 400000
set_option autoImplicit false
/-! DL: == of what holds instances with an own __eq__, of equal things -/
namespace DL
open PySem PySem.Spec PyProof.Rows L2
section
variable {S : Type}
mutual
def depX : D → Nat
  | .tup ds => depXL ds + 1
  | .lst ds => depXL ds + 1
  | _ => 0
def depXL : List D → Nat
  | [] => 0
  | d :: ds => max (depX d) (depXL ds)
end
theorem depXL_mem : ∀ {ds : List D} {d : D}, d ∈ ds → depX d ≤ depXL ds
  | _ :: _, _, .head _ => Nat.le_max_left _ _
  | _ :: _, _, .tail _ m => Nat.le_trans (depXL_mem m) (Nat.le_max_right _ _)
variable {X : Cx} {F : Fx S}
def LoopX (X : Cx) (F : Fx S) (pins : List (Addr × Obj)) (σ : L2.St) (G H : Hp) (s : S) (s' : Shared) : Prop := ∃ H' G', Inv X pins σ H' s' ∧ Ext F.reg G H G' H' ∧ Gd F.toCc G' H' s
/-! ### as an operation -/
def isSq : D → Bool
  | .tup _ => true
  | .lst _ => true
  | _ => false
end
end DL
set_option Elab.async false
set_option linter.all false
set_option maxRecDepth 100000
set_option maxHeartbeats 400000
set_option autoImplicit false
/-! DL: != of lists that hold instances with an own __eq__, of equal lists -/
namespace DL
open PySem PySem.Spec PyProof.Rows L2
end DL
set_option Elab.async false
set_option linter.all false
set_option maxRecDepth 100000
set_option maxHeartbeats 400000
set_option autoImplicit false
/-! == and != of tuples and lists item by item, equal or not (turned from HandS.OwnEq) -/
namespace GQ
open PySem PySem.SeqAt
open AutoSeq1 (wpAny_loadPart')
open MeetsSeq MeetsSeq2 MeetsSeq3 SeqRoads2
section
variable {prog : Program} {w : World} {A : Around} {R : Result → Shared → Prop}
/-- each turn tells whether the two items are equal; it ends at the first two that are not -/
abbrev TurnQ (prog : Program) (w : World) (A : Around) (E : Value → Shared → Prop) (I : Nat → Shared → Prop) (Z : Bool → Shared → Prop) (x y : Value) (i : Nat) : Shared → Prop := fun s =>
  wpAny (model prog w) A.in1 (eqBool x y) (fun r s' => (r = true ∧ I (i + 1) s') ∨ (r = false ∧ Z false s')) E s
def ReadQ (l b : Addr) (N : Nat) (J : Shared → Prop) : Prop := ∀ s, J s → ∃ (items items2 : Array Value) (n n2 : Nat), s.heap.get? l = some { cls := .type "list", data := .seq items n } ∧ s.heap.get? b = some { cls := .type "list", data := .seq items2 n2 } ∧ items.size = N ∧ items2.size = N
theorem tuple_eqQ (l b : Addr) (items items2 : Array Value) (n n2 : Nat) (dd dd2 : Option Addr) (sl sl2 : Array (Option Value)) (I : Nat → Shared → Prop) (Z : Bool → Shared → Prop)
    (turn : ∀ i (h1 : i < items.size) (h2 : i < items2.size) s, I i s → TurnQ prog w A (fun e s' => R (.error e) s') I Z items[i] items2[i] i s)
    (fin : ∀ i s, I i s → min items.size items2.size ≤ i → Z (items.size == items2.size) s) (hR : ∀ r s, Z r s → R (.ok (.ret (.bool (r)))) s) {s : Shared} (hl1 : s.heap.get? l = some { cls := .type "tuple", dict := dd, data := .seq items n, slots := sl }) (hb1 : s.heap.get? b = some { cls := .type "tuple", dict := dd2, data := .seq items2 n2, slots := sl2 }) (h : I 0 s) :
    wpAny (model prog w) A.in1 (Builtin.«tuple.__eq__» ⟨[.ref l, .ref b], []⟩) (FinOf prog w A R) (fun e s' => R (.error e) s') s := by
  have f2 := AutoSeq1.sub_tuple_tuple
  have hZ : (items.toList.zip items2.toList).length = min items.size items2.size := by simp
  have h0 := h
  obtain ⟨hp, g, d, tk, os⟩ := s
  wp_walk using wpAny_loadPart' hl1, wpAny_loadPart' hb1, wpAny_forIn_list _ (fun rest b s' => b.1 = none ∧ ∃ i, rest = (items.toList.zip items2.toList).drop i ∧ I i s') _
  case turn =>
    rintro ⟨y, x⟩ rest b s' ⟨hb', i, hz, hI⟩
    have hlt : i < (items.toList.zip items2.toList).length := by
      rcases Nat.lt_or_ge i (items.toList.zip items2.toList).length with h' | h'
      · exact h'
      · rw [List.drop_of_length_le h'] at hz; cases hz
    have hm : i < min items.size items2.size := hZ ▸ hlt
    have h1 : i < items.size := Nat.lt_of_lt_of_le hm (Nat.min_le_left _ _)
    have h2 : i < items2.size := Nat.lt_of_lt_of_le hm (Nat.min_le_right _ _)
    rw [List.drop_eq_getElem_cons hlt] at hz
    injection hz with hyx hrest
    have hy : y = items[i] := by have := congrArg Prod.fst hyx; simpa using this
    have hx : x = items2[i] := by have := congrArg Prod.snd hyx; simpa using this
    subst hy hx
    refine wpAny_bind (wpAny_mono (turn i h1 h2 s' hI) (fun r s2 q2 => ?_) fun _ _ x => x)
    rcases q2 with ⟨hr, q2⟩ | ⟨hr, q2⟩
    · subst hr
      wp_walk
      exact ⟨rfl, i + 1, hrest, q2⟩
    · subst hr
      have q3 := hR _ _ q2
      wp_walk
      exact q3
  case fin =>
    rintro ⟨b1, b2⟩ s' ⟨hb', i, hz, hI⟩
    simp only at hb'
    subst hb'
    have hge : min items.size items2.size ≤ i := by
      rcases Nat.lt_or_ge i (items.toList.zip items2.toList).length with h' | h'
      · rw [List.drop_eq_getElem_cons h'] at hz; cases hz
      · exact hZ ▸ h'
    have q3 := hR _ _ (fin i s' hI hge)
    wp_walk
    simpa [Builtin.Tuple.tupleCompareSizes, bne] using q3
  case h =>
    exact ⟨rfl, 0, rfl, h0⟩
theorem eq_loopQ (l b : Addr) (N : Nat) (J : Shared → Prop) (I : Nat → Shared → Prop) (Z : Bool → Shared → Prop) (rd : ReadQ l b N J)
    (turn : ∀ i s, J s → I i s → ∀ (items items2 : Array Value) (n n2 : Nat), s.heap.get? l = some { cls := .type "list", data := .seq items n } → s.heap.get? b = some { cls := .type "list", data := .seq items2 n2 } → ∀ (h1 : i < items.size) (h2 : i < items2.size), wpAny (model prog w) A.in1 (eqBool items[i] items2[i]) (fun r s' => J s' ∧ ((r = true ∧ I (i + 1) s') ∨ (r = false ∧ Z false s'))) (fun e s' => R (.error e) s') s)
    (fin : ∀ s, J s → I N s → Z true s) (hR : ∀ r s, Z r s → R (.ok (.ret (.bool (r)))) s) (k : Nat) :
    ∀ i : Nat, N - i = k → i ≤ N → ∀ s, J s → I i s →
      wpAny (model prog w) A.in1 (Builtin.«list.__eq__.loop» ⟨[.ref l, .ref b, rawInt i, rawInt 2], []⟩) (FinOf prog w A R) (fun e s' => R (.error e) s') s := by
  induction k with
  | zero =>
    intro i hk hi s hJ h
    obtain ⟨items, items2, n, n2, hl1, hb1, hs1, hs2⟩ := rd _ hJ
    have hi' : i = N := by omega
    have q3 := hR _ _ (fin s hJ (hi' ▸ h))
    obtain ⟨hp, g, d, tk, os⟩ := s
    wp_walk using wpAny_loadPart' hl1, wpAny_loadPart' hb1
    have hi1 : items[((i : Nat) : Int).toNat]? = none := by simp; omega
    have hi2 : items2[((i : Nat) : Int).toNat]? = none := by simp; omega
    rw [hi1, hi2]
    wp_walk using wpAny_loadPart' hl1, wpAny_loadPart' hb1
    show R (.ok (.ret (.bool (items.size == items2.size)))) _
    rw [hs1, hs2]
    simpa using q3
  | succ k ih =>
    intro i hk hi s hJ h
    obtain ⟨items, items2, n, n2, hl1, hb1, hs1, hs2⟩ := rd _ hJ
    have hlt : i < items.size := by omega
    have hlt2 : i < items2.size := by omega
    have ht := turn i s hJ h items items2 n n2 hl1 hb1 hlt hlt2
    obtain ⟨hp, g, d, tk, os⟩ := s
    wp_walk using wpAny_loadPart' hl1, wpAny_loadPart' hb1
    have hi1 : items[((i : Nat) : Int).toNat]? = some items[i] := by simp [hlt]
    have hi2 : items2[((i : Nat) : Int).toNat]? = some items2[i] := by simp [hlt2]
    have hc : ((i : Int) + 1) = ((i + 1 : Nat) : Int) := by omega
    rw [hi1, hi2]
    refine wpAny_bind (wpAny_mono ht (fun r s2 h2 => ?_) fun _ _ x => x)
    obtain ⟨hJ2, h2⟩ := h2
    rcases h2 with ⟨hr, h2⟩ | ⟨hr, h2⟩
    · subst hr
      have hrec := ih (i + 1) (by omega) (by omega) s2 hJ2 h2
      obtain ⟨hp2, g2, d2, tk2, os2⟩ := s2
      wp_walk
      rw [hc]
      exact ⟨plainId_quiet plain_eq_loop _, codeAny_builtin entry_eq_loop (by
        rw [Around.under_plainId plain_eq_loop _]
        exact hrec)⟩
    · subst hr
      have q3 := hR _ _ h2
      obtain ⟨items3, items4, n3, n4, hl3, hb3, hs3, hs4⟩ := rd _ hJ2
      obtain ⟨hp2, g2, d2, tk2, os2⟩ := s2
      wp_walk using wpAny_loadPart' hl3, wpAny_loadPart' hb3
      have hi3 : items3[((i : Nat) : Int).toNat]? = some (items3[i]'(by omega)) := by simp
      have hi4 : items4[((i : Nat) : Int).toNat]? = some (items4[i]'(by omega)) := by simp
      rw [hi3, hi4]
      wp_walk
      simpa using q3
theorem list_eqQ (l b : Addr) (N : Nat) (J : Shared → Prop) (I : Nat → Shared → Prop) (Z : Bool → Shared → Prop) (rd : ReadQ l b N J)
    (turn : ∀ i s, J s → I i s → ∀ (items items2 : Array Value) (n n2 : Nat), s.heap.get? l = some { cls := .type "list", data := .seq items n } → s.heap.get? b = some { cls := .type "list", data := .seq items2 n2 } → ∀ (h1 : i < items.size) (h2 : i < items2.size), wpAny (model prog w) A.in1 (eqBool items[i] items2[i]) (fun r s' => J s' ∧ ((r = true ∧ I (i + 1) s') ∨ (r = false ∧ Z false s'))) (fun e s' => R (.error e) s') s)
    (fin : ∀ s, J s → I N s → Z true s) (hR : ∀ r s, Z r s → R (.ok (.ret (.bool (r)))) s) {s : Shared} (hJ : J s) (h : I 0 s) :
    wpAny (model prog w) A.in1 (Builtin.«list.__eq__» ⟨[.ref l, .ref b], []⟩) (FinOf prog w A R) (fun e s' => R (.error e) s') s := by
  obtain ⟨items, items2, n, n2, hl1, hb1, hs1, hs2⟩ := rd _ hJ
  have hrec := eq_loopQ (A := A) (R := R) l b N J I Z rd turn fin hR _ 0 rfl (Nat.zero_le _) s hJ h
  obtain ⟨hp, g, d, tk, os⟩ := s
  have f3 := AutoSeq1.sub_list_list
  have hne : ¬ (items.size != items2.size) = true := by simp [hs1, hs2]
  wp_walk using wpAny_loadPart' hl1, wpAny_loadPart' hb1
  exact ⟨plainId_quiet plain_eq_loop _, codeAny_builtin entry_eq_loop (by
    rw [Around.under_plainId plain_eq_loop _]
    exact hrec)⟩
theorem list_eqL (l b : Addr) (items items2 : Array Value) (n n2 : Nat) (hsz : items.size ≠ items2.size) (Z : Bool → Shared → Prop) (hR : ∀ r s, Z r s → R (.ok (.ret (.bool (r)))) s)
    {s : Shared} (hl1 : s.heap.get? l = some { cls := .type "list", data := .seq items n }) (hb1 : s.heap.get? b = some { cls := .type "list", data := .seq items2 n2 }) (h : Z false s) :
    wpAny (model prog w) A.in1 (Builtin.«list.__eq__» ⟨[.ref l, .ref b], []⟩) (FinOf prog w A R) (fun e s' => R (.error e) s') s := by
  have q3 := hR _ _ h
  obtain ⟨hp, g, d, tk, os⟩ := s
  have f3 := AutoSeq1.sub_list_list
  have hne : (items.size != items2.size) = true := by simp [hsz]
  wp_walk using wpAny_loadPart' hl1, wpAny_loadPart' hb1
  first | exact q3 | simpa using q3
theorem tuple_neQ (l b : Addr) (items items2 : Array Value) (n n2 : Nat) (dd dd2 : Option Addr) (sl sl2 : Array (Option Value)) (I : Nat → Shared → Prop) (Z : Bool → Shared → Prop)
    (turn : ∀ i (h1 : i < items.size) (h2 : i < items2.size) s, I i s → TurnQ prog w A (fun e s' => R (.error e) s') I Z items[i] items2[i] i s)
    (fin : ∀ i s, I i s → min items.size items2.size ≤ i → Z (items.size == items2.size) s) (hR : ∀ r s, Z r s → R (.ok (.ret (.bool (!r)))) s) {s : Shared} (hl1 : s.heap.get? l = some { cls := .type "tuple", dict := dd, data := .seq items n, slots := sl }) (hb1 : s.heap.get? b = some { cls := .type "tuple", dict := dd2, data := .seq items2 n2, slots := sl2 }) (h : I 0 s) :
    wpAny (model prog w) A.in1 (Builtin.«tuple.__ne__» ⟨[.ref l, .ref b], []⟩) (FinOf prog w A R) (fun e s' => R (.error e) s') s := by
  have f2 := AutoSeq1.sub_tuple_tuple
  have hZ : (items.toList.zip items2.toList).length = min items.size items2.size := by simp
  have h0 := h
  obtain ⟨hp, g, d, tk, os⟩ := s
  wp_walk using wpAny_loadPart' hl1, wpAny_loadPart' hb1, wpAny_forIn_list _ (fun rest b s' => b.1 = none ∧ ∃ i, rest = (items.toList.zip items2.toList).drop i ∧ I i s') _
  case turn =>
    rintro ⟨y, x⟩ rest b s' ⟨hb', i, hz, hI⟩
    have hlt : i < (items.toList.zip items2.toList).length := by
      rcases Nat.lt_or_ge i (items.toList.zip items2.toList).length with h' | h'
      · exact h'
      · rw [List.drop_of_length_le h'] at hz; cases hz
    have hm : i < min items.size items2.size := hZ ▸ hlt
    have h1 : i < items.size := Nat.lt_of_lt_of_le hm (Nat.min_le_left _ _)
    have h2 : i < items2.size := Nat.lt_of_lt_of_le hm (Nat.min_le_right _ _)
    rw [List.drop_eq_getElem_cons hlt] at hz
    injection hz with hyx hrest
    have hy : y = items[i] := by have := congrArg Prod.fst hyx; simpa using this
    have hx : x = items2[i] := by have := congrArg Prod.snd hyx; simpa using this
    subst hy hx
    refine wpAny_bind (wpAny_mono (turn i h1 h2 s' hI) (fun r s2 q2 => ?_) fun _ _ x => x)
    rcases q2 with ⟨hr, q2⟩ | ⟨hr, q2⟩
    · subst hr
      wp_walk
      exact ⟨rfl, i + 1, hrest, q2⟩
    · subst hr
      have q3 := hR _ _ q2
      wp_walk
      exact q3
  case fin =>
    rintro ⟨b1, b2⟩ s' ⟨hb', i, hz, hI⟩
    simp only at hb'
    subst hb'
    have hge : min items.size items2.size ≤ i := by
      rcases Nat.lt_or_ge i (items.toList.zip items2.toList).length with h' | h'
      · rw [List.drop_eq_getElem_cons h'] at hz; cases hz
      · exact hZ ▸ h'
    have q3 := hR _ _ (fin i s' hI hge)
    wp_walk
    simpa [Builtin.Tuple.tupleCompareSizes, bne] using q3
  case h =>
    exact ⟨rfl, 0, rfl, h0⟩
theorem ne_loopQ (l b : Addr) (N : Nat) (J : Shared → Prop) (I : Nat → Shared → Prop) (Z : Bool → Shared → Prop) (rd : ReadQ l b N J)
    (turn : ∀ i s, J s → I i s → ∀ (items items2 : Array Value) (n n2 : Nat), s.heap.get? l = some { cls := .type "list", data := .seq items n } → s.heap.get? b = some { cls := .type "list", data := .seq items2 n2 } → ∀ (h1 : i < items.size) (h2 : i < items2.size), wpAny (model prog w) A.in1 (eqBool items[i] items2[i]) (fun r s' => J s' ∧ ((r = true ∧ I (i + 1) s') ∨ (r = false ∧ Z false s'))) (fun e s' => R (.error e) s') s)
    (fin : ∀ s, J s → I N s → Z true s) (hR : ∀ r s, Z r s → R (.ok (.ret (.bool (!r)))) s) (k : Nat) :
    ∀ i : Nat, N - i = k → i ≤ N → ∀ s, J s → I i s →
      wpAny (model prog w) A.in1 (Builtin.«list.__eq__.loop» ⟨[.ref l, .ref b, rawInt i, rawInt 3], []⟩) (FinOf prog w A R) (fun e s' => R (.error e) s') s := by
  induction k with
  | zero =>
    intro i hk hi s hJ h
    obtain ⟨items, items2, n, n2, hl1, hb1, hs1, hs2⟩ := rd _ hJ
    have hi' : i = N := by omega
    have q3 := hR _ _ (fin s hJ (hi' ▸ h))
    obtain ⟨hp, g, d, tk, os⟩ := s
    wp_walk using wpAny_loadPart' hl1, wpAny_loadPart' hb1
    have hi1 : items[((i : Nat) : Int).toNat]? = none := by simp; omega
    have hi2 : items2[((i : Nat) : Int).toNat]? = none := by simp; omega
    rw [hi1, hi2]
    wp_walk using wpAny_loadPart' hl1, wpAny_loadPart' hb1
    show R (.ok (.ret (.bool (items.size != items2.size)))) _
    rw [hs1, hs2]
    simpa using q3
  | succ k ih =>
    intro i hk hi s hJ h
    obtain ⟨items, items2, n, n2, hl1, hb1, hs1, hs2⟩ := rd _ hJ
    have hlt : i < items.size := by omega
    have hlt2 : i < items2.size := by omega
    have ht := turn i s hJ h items items2 n n2 hl1 hb1 hlt hlt2
    obtain ⟨hp, g, d, tk, os⟩ := s
    wp_walk using wpAny_loadPart' hl1, wpAny_loadPart' hb1
    have hi1 : items[((i : Nat) : Int).toNat]? = some items[i] := by simp [hlt]
    have hi2 : items2[((i : Nat) : Int).toNat]? = some items2[i] := by simp [hlt2]
    have hc : ((i : Int) + 1) = ((i + 1 : Nat) : Int) := by omega
    rw [hi1, hi2]
    refine wpAny_bind (wpAny_mono ht (fun r s2 h2 => ?_) fun _ _ x => x)
    obtain ⟨hJ2, h2⟩ := h2
    rcases h2 with ⟨hr, h2⟩ | ⟨hr, h2⟩
    · subst hr
      have hrec := ih (i + 1) (by omega) (by omega) s2 hJ2 h2
      obtain ⟨hp2, g2, d2, tk2, os2⟩ := s2
      wp_walk
      rw [hc]
      exact ⟨plainId_quiet plain_eq_loop _, codeAny_builtin entry_eq_loop (by
        rw [Around.under_plainId plain_eq_loop _]
        exact hrec)⟩
    · subst hr
      have q3 := hR _ _ h2
      obtain ⟨items3, items4, n3, n4, hl3, hb3, hs3, hs4⟩ := rd _ hJ2
      obtain ⟨hp2, g2, d2, tk2, os2⟩ := s2
      wp_walk using wpAny_loadPart' hl3, wpAny_loadPart' hb3
      have hi3 : items3[((i : Nat) : Int).toNat]? = some (items3[i]'(by omega)) := by simp
      have hi4 : items4[((i : Nat) : Int).toNat]? = some (items4[i]'(by omega)) := by simp
      rw [hi3, hi4]
      wp_walk
      simpa using q3
theorem list_neQ (l b : Addr) (N : Nat) (J : Shared → Prop) (I : Nat → Shared → Prop) (Z : Bool → Shared → Prop) (rd : ReadQ l b N J)
    (turn : ∀ i s, J s → I i s → ∀ (items items2 : Array Value) (n n2 : Nat), s.heap.get? l = some { cls := .type "list", data := .seq items n } → s.heap.get? b = some { cls := .type "list", data := .seq items2 n2 } → ∀ (h1 : i < items.size) (h2 : i < items2.size), wpAny (model prog w) A.in1 (eqBool items[i] items2[i]) (fun r s' => J s' ∧ ((r = true ∧ I (i + 1) s') ∨ (r = false ∧ Z false s'))) (fun e s' => R (.error e) s') s)
    (fin : ∀ s, J s → I N s → Z true s) (hR : ∀ r s, Z r s → R (.ok (.ret (.bool (!r)))) s) {s : Shared} (hJ : J s) (h : I 0 s) :
    wpAny (model prog w) A.in1 (Builtin.«list.__ne__» ⟨[.ref l, .ref b], []⟩) (FinOf prog w A R) (fun e s' => R (.error e) s') s := by
  obtain ⟨items, items2, n, n2, hl1, hb1, hs1, hs2⟩ := rd _ hJ
  have hrec := ne_loopQ (A := A) (R := R) l b N J I Z rd turn fin hR _ 0 rfl (Nat.zero_le _) s hJ h
  obtain ⟨hp, g, d, tk, os⟩ := s
  have f3 := AutoSeq1.sub_list_list
  have hne : ¬ (items.size != items2.size) = true := by simp [hs1, hs2]
  wp_walk using wpAny_loadPart' hl1, wpAny_loadPart' hb1
  exact ⟨plainId_quiet plain_eq_loop _, codeAny_builtin entry_eq_loop (by
    rw [Around.under_plainId plain_eq_loop _]
    exact hrec)⟩
theorem list_neL (l b : Addr) (items items2 : Array Value) (n n2 : Nat) (hsz : items.size ≠ items2.size) (Z : Bool → Shared → Prop) (hR : ∀ r s, Z r s → R (.ok (.ret (.bool (!r)))) s)
    {s : Shared} (hl1 : s.heap.get? l = some { cls := .type "list", data := .seq items n }) (hb1 : s.heap.get? b = some { cls := .type "list", data := .seq items2 n2 }) (h : Z false s) :
    wpAny (model prog w) A.in1 (Builtin.«list.__ne__» ⟨[.ref l, .ref b], []⟩) (FinOf prog w A R) (fun e s' => R (.error e) s') s := by
  have q3 := hR _ _ h
  obtain ⟨hp, g, d, tk, os⟩ := s
  have f3 := AutoSeq1.sub_list_list
  have hne : (items.size != items2.size) = true := by simp [hsz]
  wp_walk using wpAny_loadPart' hl1, wpAny_loadPart' hb1
  first | exact q3 | simpa using q3
end
section
variable {prog : Program} {w : World} {A : Around} {E : Value → Shared → Prop} {s : Shared}
theorem rc_tupQ {l b : Addr} {items items2 : Array Value} {Q : Value → Shared → Prop} (hu : A.units < cLine) (I : Nat → Shared → Prop) (Z : Bool → Shared → Prop)
    (hl : s.heap.IsTuple l items) (hb : s.heap.IsTuple b items2)
    (turn : ∀ i (h1 : i < items.size) (h2 : i < items2.size) s, I i s → TurnQ prog w A E I Z items[i] items2[i] i s)
    (fin : ∀ i s, I i s → min items.size items2.size ≤ i → Z (items.size == items2.size) s) (hQ : ∀ r s, Z r s → Q (.bool (r)) s) (h : I 0 s) : wpAny (model prog w) A (richCompare .Eq (.ref l) (.ref b)) Q E s := by
  obtain ⟨⟨cls, dd, data, sl⟩, ho, hc, n, hd⟩ := id hl
  obtain ⟨⟨cls2, dd2, data2, sl2⟩, ho2, hc2, n2, hd2⟩ := id hb
  simp only at hc hd hc2 hd2
  subst hc hd hc2 hd2
  refine wpAny_richCompare_same_room (op := .Eq) ⟨_, ho, rfl⟩ ⟨_, ho2, rfl⟩ F.slot_tuple_eq (call_here F.slot_tuple_eq ⟨_, ho, rfl⟩ F.entry_tuple_eq (F.args_tuple_eq_2 _ _) ?_) hu
  exact tuple_eqQ (R := wants (fun v s' => v ≠ .notImplemented ∧ Q v s') E) l b items items2 n n2 dd dd2 sl sl2 I Z turn fin (fun r s' q => ⟨(fun x => nomatch x), hQ r s' q⟩) ho ho2 h
theorem rc_listQ {l b : Addr} {N : Nat} {Q : Value → Shared → Prop} (hu : A.units < cLine) (J : Shared → Prop) (I : Nat → Shared → Prop) (Z : Bool → Shared → Prop) (rd : ReadQ l b N J)
    (turn : ∀ i s, J s → I i s → ∀ (items items2 : Array Value) (n n2 : Nat), s.heap.get? l = some { cls := .type "list", data := .seq items n } → s.heap.get? b = some { cls := .type "list", data := .seq items2 n2 } → ∀ (h1 : i < items.size) (h2 : i < items2.size), wpAny (model prog w) A.in1 (eqBool items[i] items2[i]) (fun r s' => J s' ∧ ((r = true ∧ I (i + 1) s') ∨ (r = false ∧ Z false s'))) E s)
    (fin : ∀ s, J s → I N s → Z true s) (hQ : ∀ r s, Z r s → Q (.bool (r)) s) (hJ : J s) (h : I 0 s) : wpAny (model prog w) A (richCompare .Eq (.ref l) (.ref b)) Q E s := by
  obtain ⟨items, items2, n, n2, hl1, hb1, _, _⟩ := rd _ hJ
  refine wpAny_richCompare_same_room (op := .Eq) ⟨_, hl1, rfl⟩ ⟨_, hb1, rfl⟩ F.slot_list_eq (call_here F.slot_list_eq ⟨_, hl1, rfl⟩ F.entry_list_eq (F.args_list_eq_2 _ _) ?_) hu
  exact list_eqQ (R := wants (fun v s' => v ≠ .notImplemented ∧ Q v s') E) l b N J I Z rd turn fin (fun r s' q => ⟨(fun x => nomatch x), hQ r s' q⟩) hJ h
theorem rc_listL {l b : Addr} {items items2 : Array Value} {n n2 : Nat} {Q : Value → Shared → Prop} (hu : A.units < cLine) (hsz : items.size ≠ items2.size) (hl1 : s.heap.get? l = some { cls := .type "list", data := .seq items n }) (hb1 : s.heap.get? b = some { cls := .type "list", data := .seq items2 n2 })
    (h : Q (.bool (false)) s) : wpAny (model prog w) A (richCompare .Eq (.ref l) (.ref b)) Q E s := by
  refine wpAny_richCompare_same_room (op := .Eq) ⟨_, hl1, rfl⟩ ⟨_, hb1, rfl⟩ F.slot_list_eq (call_here F.slot_list_eq ⟨_, hl1, rfl⟩ F.entry_list_eq (F.args_list_eq_2 _ _) ?_) hu
  exact list_eqL (R := wants (fun v s' => v ≠ .notImplemented ∧ Q v s') E) l b items items2 n n2 hsz (fun r s' => r = false ∧ s' = s) (fun r s' q => by obtain ⟨rfl, rfl⟩ := q; exact ⟨(fun x => nomatch x), h⟩) hl1 hb1 ⟨rfl, rfl⟩
theorem rc_tupNQ {l b : Addr} {items items2 : Array Value} {Q : Value → Shared → Prop} (hu : A.units < cLine) (I : Nat → Shared → Prop) (Z : Bool → Shared → Prop)
    (hl : s.heap.IsTuple l items) (hb : s.heap.IsTuple b items2)
    (turn : ∀ i (h1 : i < items.size) (h2 : i < items2.size) s, I i s → TurnQ prog w A E I Z items[i] items2[i] i s)
    (fin : ∀ i s, I i s → min items.size items2.size ≤ i → Z (items.size == items2.size) s) (hQ : ∀ r s, Z r s → Q (.bool (!r)) s) (h : I 0 s) : wpAny (model prog w) A (richCompare .NotEq (.ref l) (.ref b)) Q E s := by
  obtain ⟨⟨cls, dd, data, sl⟩, ho, hc, n, hd⟩ := id hl
  obtain ⟨⟨cls2, dd2, data2, sl2⟩, ho2, hc2, n2, hd2⟩ := id hb
  simp only at hc hd hc2 hd2
  subst hc hd hc2 hd2
  refine wpAny_richCompare_same_room (op := .NotEq) ⟨_, ho, rfl⟩ ⟨_, ho2, rfl⟩ F.slot_tuple_ne (call_here F.slot_tuple_ne ⟨_, ho, rfl⟩ F.entry_tuple_ne (F.args_tuple_ne_2 _ _) ?_) hu
  exact tuple_neQ (R := wants (fun v s' => v ≠ .notImplemented ∧ Q v s') E) l b items items2 n n2 dd dd2 sl sl2 I Z turn fin (fun r s' q => ⟨(fun x => nomatch x), hQ r s' q⟩) ho ho2 h
theorem rc_listNQ {l b : Addr} {N : Nat} {Q : Value → Shared → Prop} (hu : A.units < cLine) (J : Shared → Prop) (I : Nat → Shared → Prop) (Z : Bool → Shared → Prop) (rd : ReadQ l b N J)
    (turn : ∀ i s, J s → I i s → ∀ (items items2 : Array Value) (n n2 : Nat), s.heap.get? l = some { cls := .type "list", data := .seq items n } → s.heap.get? b = some { cls := .type "list", data := .seq items2 n2 } → ∀ (h1 : i < items.size) (h2 : i < items2.size), wpAny (model prog w) A.in1 (eqBool items[i] items2[i]) (fun r s' => J s' ∧ ((r = true ∧ I (i + 1) s') ∨ (r = false ∧ Z false s'))) E s)
    (fin : ∀ s, J s → I N s → Z true s) (hQ : ∀ r s, Z r s → Q (.bool (!r)) s) (hJ : J s) (h : I 0 s) : wpAny (model prog w) A (richCompare .NotEq (.ref l) (.ref b)) Q E s := by
  obtain ⟨items, items2, n, n2, hl1, hb1, _, _⟩ := rd _ hJ
  refine wpAny_richCompare_same_room (op := .NotEq) ⟨_, hl1, rfl⟩ ⟨_, hb1, rfl⟩ F.slot_list_ne (call_here F.slot_list_ne ⟨_, hl1, rfl⟩ F.entry_list_ne (F.args_list_ne_2 _ _) ?_) hu
  exact list_neQ (R := wants (fun v s' => v ≠ .notImplemented ∧ Q v s') E) l b N J I Z rd turn fin (fun r s' q => ⟨(fun x => nomatch x), hQ r s' q⟩) hJ h
theorem rc_listNL {l b : Addr} {items items2 : Array Value} {n n2 : Nat} {Q : Value → Shared → Prop} (hu : A.units < cLine) (hsz : items.size ≠ items2.size) (hl1 : s.heap.get? l = some { cls := .type "list", data := .seq items n }) (hb1 : s.heap.get? b = some { cls := .type "list", data := .seq items2 n2 })
    (h : Q (.bool (!false)) s) : wpAny (model prog w) A (richCompare .NotEq (.ref l) (.ref b)) Q E s := by
  refine wpAny_richCompare_same_room (op := .NotEq) ⟨_, hl1, rfl⟩ ⟨_, hb1, rfl⟩ F.slot_list_ne (call_here F.slot_list_ne ⟨_, hl1, rfl⟩ F.entry_list_ne (F.args_list_ne_2 _ _) ?_) hu
  exact list_neL (R := wants (fun v s' => v ≠ .notImplemented ∧ Q v s') E) l b items items2 n n2 hsz (fun r s' => r = false ∧ s' = s) (fun r s' q => by obtain ⟨rfl, rfl⟩ := q; exact ⟨(fun x => nomatch x), h⟩) hl1 hb1 ⟨rfl, rfl⟩
end
end GQ
set_option Elab.async false
set_option linter.all false
set_option maxRecDepth 100000
set_option maxHeartbeats 1000000
set_option autoImplicit false
/-! DL: == and != of what holds instances with an own __eq__, equal or not -/
namespace DL
open PySem PySem.Spec PyProof.Rows L2
section
variable {S : Type}
mutual
def plD : D → Bool
  | .non => true
  | .bl _ => true
  | .int _ => true
  | .str _ => true
  | .tup ds => plDL ds
  | .lst ds => plDL ds
  | _ => false
def plDL : List D → Bool
  | [] => true
  | d :: ds => plD d && plDL ds
end
def plDF : List (Str × D) → Bool
  | [] => true
  | p :: fs => plD p.2 && plDF fs
/-- the heap tells one row of an address -/
structure UniqS (K : PySem.W.Frag) (G : Hp) : Prop where
  tt : ∀ a xs ys, SqT K G a xs → SqT K G a ys → xs = ys
  tl : ∀ a xs ys, SqT K G a xs → G a = some (.lst ys) → False
variable {X : Cx} {F : Fx S}
theorem relV_inj {x y : V} {u : Value} (h : RelV x u) (k : RelV y u) : x = y := by
  cases x <;> cases y <;> first
    | (obtain ⟨t, rfl⟩ := h; obtain ⟨t', e⟩ := k; cases e; rfl)
    | (obtain ⟨t, rfl⟩ := h; obtain ⟨t', e⟩ := k; cases e; done)
    | (obtain ⟨t, rfl⟩ := h; cases k; done)
    | (obtain ⟨t, rfl⟩ := k; cases h; done)
    | (cases h; cases k; rfl)
    | (cases h; cases k; done)
theorem vals_inj : ∀ {xs ys : List V} {us : List Value}, Vals xs us → Vals ys us → xs = ys
  | [], [], _, _, _ => rfl
  | x :: xs, y :: ys, _, .cons a b, .cons c d => by rw [relV_inj a c, vals_inj b d]
  | [], _ :: _, _, .nil, h => nomatch h
  | _ :: _, [], _, h, .nil => nomatch h
theorem uniq_of {pins : List (Addr × Obj)} {σ : L2.St} {G H : Hp} {sh : Shared} (hK : X.K = F.K) (I : Inv X pins σ H sh) (h : Same G H) : UniqS F.K G where
  tt a xs ys q q' := by
    obtain ⟨its, r, ⟨o, ho, hc, n, hd⟩, z⟩ := I.tuple (by rw [hK]; exact SqT.sub h q)
    obtain ⟨its2, r2, ⟨o2, ho2, hc2, n2, hd2⟩, z2⟩ := I.tuple (by rw [hK]; exact SqT.sub h q')
    rw [ho] at ho2
    cases ho2
    rw [hd] at hd2
    have e : its.toArray = its2.toArray := by injection hd2
    have e2 : its = its2 := by simpa using congrArg Array.toList e
    subst e2
    exact vals_inj r r2
  tl a xs ys q q' := by
    obtain ⟨its, r, ⟨o, ho, hc, n, hd⟩, z⟩ := I.tuple (by rw [hK]; exact SqT.sub h q)
    obtain ⟨z2, its2, k1, r2, e2⟩ := I.hok a _ (h _ _ q')
    rw [ho] at e2
    cases e2
    simp at hc
mutual
theorem plain_inj {C : Cc S} {G : Hp} (U : UniqS C.K G) : ∀ (d e : D) (v : V), plD d = true → plD e = true → Rep C G d v → Rep C G e v → d = e
  | .non, e, v, _, he, r, q => by
    have r : v = .non := r
    subst r
    cases e with
    | non => rfl
    | bl z => exact nomatch (show (V.non : V) = V.bl z from q)
    | int z => exact nomatch (show (V.non : V) = V.int z from q)
    | str z => exact nomatch (show (V.non : V) = V.str z from q)
    | tup _ => obtain ⟨_, _, z, _⟩ := q; cases z
    | lst _ => obtain ⟨_, _, z, _⟩ := q; cases z
    | _ => cases he
  | .bl b, e, v, _, he, r, q => by
    have r : v = .bl b := r
    subst r
    cases e with
    | non => exact nomatch (show (V.bl b : V) = V.non from q)
    | bl z => exact (by cases (show V.bl b = V.bl z from q); rfl)
    | int z => exact nomatch (show (V.bl b : V) = V.int z from q)
    | str z => exact nomatch (show (V.bl b : V) = V.str z from q)
    | tup _ => obtain ⟨_, _, z, _⟩ := q; cases z
    | lst _ => obtain ⟨_, _, z, _⟩ := q; cases z
    | _ => cases he
  | .int b, e, v, _, he, r, q => by
    have r : v = .int b := r
    subst r
    cases e with
    | non => exact nomatch (show (V.int b : V) = V.non from q)
    | bl z => exact nomatch (show (V.int b : V) = V.bl z from q)
    | int z => exact (by cases (show V.int b = V.int z from q); rfl)
    | str z => exact nomatch (show (V.int b : V) = V.str z from q)
    | tup _ => obtain ⟨_, _, z, _⟩ := q; cases z
    | lst _ => obtain ⟨_, _, z, _⟩ := q; cases z
    | _ => cases he
  | .str b, e, v, _, he, r, q => by
    have r : v = .str b := r
    subst r
    cases e with
    | non => exact nomatch (show (V.str b : V) = V.non from q)
    | bl z => exact nomatch (show (V.str b : V) = V.bl z from q)
    | int z => exact nomatch (show (V.str b : V) = V.int z from q)
    | str z => exact (by cases (show V.str b = V.str z from q); rfl)
    | tup _ => obtain ⟨_, _, z, _⟩ := q; cases z
    | lst _ => obtain ⟨_, _, z, _⟩ := q; cases z
    | _ => cases he
  | .tup ds, e, v, hd, he, r, q => by
    obtain ⟨a, vs, rfl, h1, _, h2⟩ := r
    cases e with
    | tup es =>
      obtain ⟨a', us, ea, k1, _, k2⟩ := q
      cases ea
      have e1 := U.tt _ _ _ h1 k1
      subst e1
      rw [plain_injL U ds es vs hd he h2 k2]
    | lst es =>
      obtain ⟨a', us, ea, k1, _, k2⟩ := q
      cases ea
      exact (U.tl _ _ _ h1 k1).elim
    | non => exact nomatch (show V.ref a = V.non from q)
    | bl z => exact nomatch (show V.ref a = V.bl z from q)
    | int z => exact nomatch (show V.ref a = V.int z from q)
    | str z => exact nomatch (show V.ref a = V.str z from q)
    | _ => cases he
  | .lst ds, e, v, hd, he, r, q => by
    obtain ⟨a, vs, rfl, h1, _, h2⟩ := r
    cases e with
    | tup es =>
      obtain ⟨a', us, ea, k1, _, k2⟩ := q
      cases ea
      exact (U.tl _ _ _ k1 h1).elim
    | lst es =>
      obtain ⟨a', us, ea, k1, _, k2⟩ := q
      cases ea
      rw [h1] at k1
      cases k1
      rw [plain_injL U ds es vs hd he h2 k2]
    | non => exact nomatch (show V.ref a = V.non from q)
    | bl z => exact nomatch (show V.ref a = V.bl z from q)
    | int z => exact nomatch (show V.ref a = V.int z from q)
    | str z => exact nomatch (show V.ref a = V.str z from q)
    | _ => cases he
  | .ins _ _, _, _, hd, _, _, _ => nomatch hd
  | .dct _, _, _, hd, _, _, _ => nomatch hd
  | .dks _, _, _, hd, _, _, _ => nomatch hd
  | .fn _, _, _, hd, _, _, _ => nomatch hd
  | .adr _ _, _, _, hd, _, _, _ => nomatch hd
  | .rps _, _, _, hd, _, _, _ => nomatch hd
  | .scr _, _, _, hd, _, _, _ => nomatch hd
  | .hnd _, _, _, hd, _, _, _ => nomatch hd
  | .exc _ _, _, _, hd, _, _, _ => nomatch hd
theorem plain_injL {C : Cc S} {G : Hp} (U : UniqS C.K G) : ∀ (ds es : List D) (vs : List V), plDL ds = true → plDL es = true → RepL C G ds vs → RepL C G es vs → ds = es
  | [], [], _, _, _, _, _ => rfl
  | [], _ :: _, vs, _, _, r, q => by
    have r : vs = [] := r
    subst r
    obtain ⟨_, _, z, _⟩ := q
    cases z
  | _ :: _, [], vs, _, _, r, q => by
    have q : vs = [] := q
    subst q
    obtain ⟨_, _, z, _⟩ := r
    cases z
  | d :: ds, e :: es, vs, hd, he, r, q => by
    obtain ⟨v, vr, rfl, h1, h2⟩ := r
    obtain ⟨v', vr', z, k1, k2⟩ := q
    cases z
    have hd : (plD d && plDL ds) = true := hd
    have he : (plD e && plDL es) = true := he
    rw [Bool.and_eq_true] at hd he
    rw [plain_inj U d e v hd.1 he.1 h1 k1, plain_injL U ds es vr hd.2 he.2 h2 k2]
end
theorem plain_injF {C : Cc S} {G : Hp} (U : UniqS C.K G) : ∀ (fs gs : List (Str × D)) (vs : List (Str × V)), plDF fs = true → plDF gs = true → RepF C G fs vs → RepF C G gs vs → fs = gs
  | [], [], _, _, _, _, _ => rfl
  | [], _ :: _, vs, _, _, r, q => by
    have r : vs = [] := r
    subst r
    obtain ⟨_, _, z, _⟩ := q
    cases z
  | _ :: _, [], vs, _, _, r, q => by
    have q : vs = [] := q
    subst q
    obtain ⟨_, _, z, _⟩ := r
    cases z
  | (k, d) :: ds, (k', e) :: es, vs, hd, he, r, q => by
    obtain ⟨v, vr, rfl, h1, h2⟩ := r
    obtain ⟨v', vr', z, k1, k2⟩ := q
    cases z
    have hd : (plD d && plDF ds) = true := hd
    have he : (plD e && plDF es) = true := he
    rw [Bool.and_eq_true] at hd he
    rw [plain_inj U d e v hd.1 he.1 h1 k1, plain_injF U ds es vr hd.2 he.2 h2 k2]
/-! ### what == tells -/
section
variable (c : Str) (sem : List D → M S D) (s : S)
open Classical in
noncomputable def eqvI (fs gs : List (Str × D)) : Option Bool :=
  if plDF fs = true ∧ plDF gs = true ∧ sem [.ins c fs, .ins c gs] s = .ok (.bl (decide (fs = gs))) s then some (decide (fs = gs)) else none
mutual
noncomputable def eqvG : D → D → Option Bool
  | .non, e => if flatD e = true then some (eqF .non e) else none
  | .bl b, e => if flatD e = true then some (eqF (.bl b) e) else none
  | .int b, e => if flatD e = true then some (eqF (.int b) e) else none
  | .str b, e => if flatD e = true then some (eqF (.str b) e) else none
  | .tup ds, e => (match e with
    | .tup es => eqvL ds es
    | _ => none)
  | .lst ds, e => (match e with
    | .lst es => if ds.length = es.length then eqvL ds es else some false
    | _ => none)
  | .ins c1 fs, e => (match e with
    | .ins c2 gs => if c1 = c ∧ c2 = c then eqvI c sem s fs gs else none
    | _ => none)
  | _, _ => none
noncomputable def eqvL : List D → List D → Option Bool
  | [], es => (match es with
    | [] => some true
    | _ :: _ => some false)
  | d :: ds, es => (match es with
    | [] => some false
    | e :: es => (match eqvG d e with
      | some true => eqvL ds es
      | some false => some false
      | none => none))
end
end
section
variable {c : Str} {sem : List D → M S D} {s : S}
theorem eqF_refl : ∀ d : D, flatD d = true → eqF d d = true
  | .non, _ => rfl
  | .bl b, _ => by show (b == b) = true; simp
  | .int b, _ => by show (b == b) = true; simp
  | .str b, _ => by show (b == b) = true; simp
theorem flat_pl : ∀ d : D, flatD d = true → plD d = true
  | .non, _ => rfl
  | .bl b, _ => rfl
  | .int b, _ => rfl
  | .str b, _ => rfl
mutual
theorem same_eqv {C : Cc S} {G : Hp} (U : UniqS C.K G) : ∀ (d e : D) (r : Bool) (v : V), eqvG c sem s d e = some r → Rep C G d v → Rep C G e v → r = true
  | .non, e, r, v, h, h1, h2 => same_flat U (d := .non) rfl h h1 h2
  | .bl b, e, r, v, h, h1, h2 => same_flat U (d := .bl b) rfl h h1 h2
  | .int b, e, r, v, h, h1, h2 => same_flat U (d := .int b) rfl h h1 h2
  | .str b, e, r, v, h, h1, h2 => same_flat U (d := .str b) rfl h h1 h2
  | .tup ds, e, r, v, h, h1, h2 => by
    cases e with
    | tup es =>
      obtain ⟨a, vs, rfl, q, _, k⟩ := h1
      obtain ⟨a', us, ea, q', _, k'⟩ := h2
      cases ea
      have e1 := U.tt _ _ _ q q'
      subst e1
      exact same_eqvL U ds es r vs h k k'
    | _ => exact nomatch (show (none : Option Bool) = some r from h)
  | .lst ds, e, r, v, h, h1, h2 => by
    cases e with
    | lst es =>
      obtain ⟨a, vs, rfl, q, _, k⟩ := h1
      obtain ⟨a', us, ea, q', _, k'⟩ := h2
      cases ea
      rw [q] at q'
      cases q'
      have hl : ds.length = es.length := by rw [← k.length, ← k'.length]
      have h : (if ds.length = es.length then eqvL c sem s ds es else some false) = some r := h
      rw [if_pos hl] at h
      exact same_eqvL U ds es r vs h k k'
    | _ => exact nomatch (show (none : Option Bool) = some r from h)
  | .ins c1 fs, e, r, v, h, h1, h2 => by
    cases e with
    | ins c2 gs =>
      obtain ⟨a, dx, vs, rfl, q, _, k⟩ := h1
      obtain ⟨a', dx', us, ea, q', _, k'⟩ := h2
      cases ea
      rw [q] at q'
      have h : (if c1 = c ∧ c2 = c then eqvI c sem s fs gs else none) = some r := h
      by_cases hc : c1 = c ∧ c2 = c
      · rw [if_pos hc] at h
        unfold eqvI at h
        split at h
        · rename_i hh
          cases h
          injection q' with q'
          injection q' with _ _ q3
          subst q3
          have e9 := plain_injF U fs gs vs hh.1 hh.2.1 k k'
          simp [e9]
        · cases h
      · rw [if_neg hc] at h; cases h
    | _ => exact nomatch (show (none : Option Bool) = some r from h)
  | .dct _, _, r, _, h, _, _ => nomatch (show (none : Option Bool) = some r from h)
  | .dks _, _, r, _, h, _, _ => nomatch (show (none : Option Bool) = some r from h)
  | .fn _, _, r, _, h, _, _ => nomatch (show (none : Option Bool) = some r from h)
  | .adr _ _, _, r, _, h, _, _ => nomatch (show (none : Option Bool) = some r from h)
  | .rps _, _, r, _, h, _, _ => nomatch (show (none : Option Bool) = some r from h)
  | .scr _, _, r, _, h, _, _ => nomatch (show (none : Option Bool) = some r from h)
  | .hnd _, _, r, _, h, _, _ => nomatch (show (none : Option Bool) = some r from h)
  | .exc _ _, _, r, _, h, _, _ => nomatch (show (none : Option Bool) = some r from h)
theorem same_eqvL {C : Cc S} {G : Hp} (U : UniqS C.K G) : ∀ (ds es : List D) (r : Bool) (vs : List V), eqvL c sem s ds es = some r → RepL C G ds vs → RepL C G es vs → r = true
  | [], [], r, _, h, _, _ => by cases (show some true = some r from h); rfl
  | [], _ :: _, _, vs, _, r, q => by
    have r : vs = [] := r
    subst r
    obtain ⟨_, _, z, _⟩ := q
    cases z
  | _ :: _, [], _, vs, _, r, q => by
    have q : vs = [] := q
    subst q
    obtain ⟨_, _, z, _⟩ := r
    cases z
  | d :: ds, e :: es, r, vs, h, k, q => by
    obtain ⟨v, vr, rfl, h1, h2⟩ := k
    obtain ⟨v', vr', z, k1, k2⟩ := q
    cases z
    have h : (match eqvG c sem s d e with
      | some true => eqvL c sem s ds es
      | some false => some false
      | none => none) = some r := h
    cases hb : eqvG c sem s d e with
    | none => rw [hb] at h; cases h
    | some b =>
      have := same_eqv U d e b v hb h1 k1
      subst this
      rw [hb] at h
      exact same_eqvL U ds es r vr h h2 k2
theorem same_flat {C : Cc S} {G : Hp} (U : UniqS C.K G) {d e : D} {r : Bool} {v : V} (hd : flatD d = true) (h : (if flatD e = true then some (eqF d e) else none) = some r) (h1 : Rep C G d v) (h2 : Rep C G e v) : r = true := by
  by_cases he : flatD e = true
  · rw [if_pos he] at h
    cases h
    rw [← plain_inj U d e v (flat_pl d hd) (flat_pl e he) h1 h2]
    exact eqF_refl d hd
  · rw [if_neg he] at h; cases h
end
end
/-! ### the walk -/
section
variable {c : Str} {sem : List D → M S D}
def EqQ (X : Cx) (F : Fx S) (k : Nat) (s : S) (d e : D) (b : Bool) : Prop := ∀ (m : Nat), depX d ≤ m → ∀ (A : Around) (pins : List (Addr × Obj)) (sh : Shared) (σ : L2.St) (G H : Hp) (x y : V) (u v : Value), Sub X (k + m) A → Inv X pins σ H sh → L2.RelV x u → L2.RelV y v → Gd F.toCc G H s → Rep F.toCc G d x → Rep F.toCc G e y →
  wpAny (model X.prog X.w) A (eqBool u v) (fun r s' => r = b ∧ LoopX X F pins σ G H s s') X.xe sh
theorem eqQ_same {A : Around} {pins : List (Addr × Obj)} {sh : Shared} {σ : L2.St} {G H : Hp} {s : S} {d e : D} {b : Bool} {x : V} {u : Value} (hK : X.K = F.K) (I : Inv X pins σ H sh) (g : Gd F.toCc G H s) (h : eqvG c sem s d e = some b) (h1 : Rep F.toCc G d x) (h2 : Rep F.toCc G e x) :
    wpAny (model X.prog X.w) A (eqBool u u) (fun r s' => r = b ∧ LoopX X F pins σ G H s s') X.xe sh := by
  have hb := same_eqv (uniq_of hK I g.gh) d e b x h h1 h2
  subst hb
  exact SeqAt.EqAt.same (A := A) (s := sh) u X.prog X.w X.xe _ ⟨rfl, H, G, I, Ext.refl _ _ _, g⟩
theorem eqQ_flat {k : Nat} {s : S} {d e : D} {b : Bool} (hd : flatD d = true) (h : (if flatD e = true then some (eqF d e) else none) = some b) : EqQ X F k s d e b := fun m _ A pins sh σ G H x y u v sb I rx ry g ax ay => by
  by_cases he : flatD e = true
  · rw [if_pos he] at h
    cases h
    have fx := flat_rep hd ax
    have fy := flat_rep he ay
    have q := eqAt_V (A := A) (s := sh) rx ry fx fy
    rw [eqF_rep hd he ax ay] at q
    exact q X.prog X.w X.xe _ ⟨rfl, H, G, I, Ext.refl _ _ _, g⟩
  · rw [if_neg he] at h; cases h
/-- what the loop over the items keeps -/
def LoopQ (X : Cx) (F : Fx S) (c : Str) (sem : List D → M S D) (pins : List (Addr × Obj)) (σ : L2.St) (G H : Hp) (s : S) (ds es : List D) (b : Bool) (i : Nat) (s' : Shared) : Prop := (i ≤ ds.length ∧ i ≤ es.length ∧ eqvL c sem s (ds.drop i) (es.drop i) = some b) ∧ LoopX X F pins σ G H s s'
theorem eqQ_turn {k m : Nat} {s : S} {ds es : List D} {b : Bool} (hP : ∀ d ∈ ds, ∀ e r, eqvG c sem s d e = some r → EqQ X F k s d e r) (hm : depXL ds ≤ m) {A : Around} (sb : Sub X (k + m + 1) A) {pins : List (Addr × Obj)} {σ : L2.St} {G H : Hp} {xs ys : List V} {its its2 : List Value} (px : RepL F.toCc G ds xs) (py : RepL F.toCc G es ys) (r : Vals xs its) (r2 : Vals ys its2)
    (i : Nat) (h1 : i < its.toArray.size) (h2 : i < its2.toArray.size) (s' : Shared) (l : LoopQ X F c sem pins σ G H s ds es b i s') :
    wpAny (model X.prog X.w) A.in1 (eqBool its.toArray[i] its2.toArray[i]) (fun r s2 => (r = true ∧ LoopQ X F c sem pins σ G H s ds es b (i + 1) s2) ∨ (r = false ∧ (false = b ∧ LoopX X F pins σ G H s s2))) X.xe s' := by
  obtain ⟨⟨i1, i2, hl⟩, H1, G1, I1, e1, g1⟩ := l
  have q1 : its[i]? = some its.toArray[i] := by
    have h1' : i < its.length := by simpa using h1
    rw [List.getElem?_eq_getElem h1'] <;> simp
  have q2 : its2[i]? = some its2.toArray[i] := by
    have h2' : i < its2.length := by simpa using h2
    rw [List.getElem?_eq_getElem h2'] <;> simp
  have k1 : i < xs.length := by rw [r.length]; simpa using h1
  have k2 : i < ys.length := by rw [r2.length]; simpa using h2
  have kd : i < ds.length := by rw [← px.length]; exact k1
  have ke : i < es.length := by rw [← py.length]; exact k2
  obtain ⟨x, hx, rx⟩ := px.get (i := i) (d := ds[i]) (by simp [kd])
  obtain ⟨y, hy, ry⟩ := py.get (i := i) (d := es[i]) (by simp [ke])
  obtain ⟨u, hu, ru⟩ := r.get hx
  obtain ⟨v, hv, rv⟩ := r2.get hy
  rw [q1] at hu
  rw [q2] at hv
  rw [Option.some.inj hu, Option.some.inj hv]
  have hd : ds[i] ∈ ds := List.getElem_mem kd
  rw [List.drop_eq_getElem_cons kd, List.drop_eq_getElem_cons ke] at hl
  have hl : (match eqvG c sem s ds[i] es[i] with
    | some true => eqvL c sem s (ds.drop (i + 1)) (es.drop (i + 1))
    | some false => some false
    | none => none) = some b := hl
  cases hb : eqvG c sem s ds[i] es[i] with
  | none => rw [hb] at hl; cases hl
  | some rr =>
    refine wpAny_mono (hP _ hd _ _ hb m (Nat.le_trans (depXL_mem hd) hm) A.in1 pins s' σ G1 H1 x y u v sb.in1 I1 ru rv g1 (rx.mono e1.g) (ry.mono e1.g)) (fun r s2 q => ?_) fun _ _ x => x
    obtain ⟨hr, H2, G2, I2, e2, g2⟩ := q
    cases rr with
    | true =>
      rw [hb] at hl
      exact .inl ⟨hr, ⟨kd, ke, hl⟩, H2, G2, I2, e1.trans e2, g2⟩
    | false =>
      rw [hb] at hl
      cases hl
      exact .inr ⟨hr, rfl, H2, G2, I2, e1.trans e2, g2⟩
theorem eqQ_fin {s : S} {ds es : List D} {b : Bool} {pins : List (Addr × Obj)} {σ : L2.St} {G H : Hp} {i : Nat} {s' : Shared} (l : LoopQ X F c sem pins σ G H s ds es b i s') (h : min ds.length es.length ≤ i) : (ds.length == es.length) = b ∧ LoopX X F pins σ G H s s' := by
  obtain ⟨⟨i1, i2, hl⟩, l⟩ := l
  refine ⟨?_, l⟩
  by_cases k1 : ds.length ≤ i
  · have e1 : i = ds.length := by omega
    rw [List.drop_eq_nil_of_le k1] at hl
    by_cases k2 : es.length ≤ i
    · rw [List.drop_eq_nil_of_le k2] at hl
      cases (show some true = some b from hl)
      have : ds.length = es.length := by omega
      rw [this]; simp
    · rw [List.drop_eq_getElem_cons (by omega)] at hl
      cases (show some false = some b from hl)
      have : ds.length ≠ es.length := by omega
      simpa using this
  · have k2 : es.length ≤ i := by omega
    rw [List.drop_eq_nil_of_le k2, List.drop_eq_getElem_cons (by omega)] at hl
    cases (show some false = some b from hl)
    have : ds.length ≠ es.length := by omega
    simpa using this
theorem rcQ_tup {k m : Nat} {s : S} {ds es : List D} {b : Bool} (hK : X.K = F.K) (hP : ∀ d ∈ ds, ∀ e r, eqvG c sem s d e = some r → EqQ X F k s d e r) (hm : depXL ds ≤ m) (h : eqvL c sem s ds es = some b) {A : Around} {pins : List (Addr × Obj)} {sh : Shared} {σ : L2.St} {G H : Hp} {x y : V} {u v : Value} (sb : Sub X (k + m + 1) A) (I : Inv X pins σ H sh) (rx : L2.RelV x u) (ry : L2.RelV y v) (g : Gd F.toCc G H s)
    (ax : Rep F.toCc G (.tup ds) x) (ay : Rep F.toCc G (.tup es) y) : wpAny (model X.prog X.w) A (richCompare .Eq u v) (fun r s' => r = .bool b ∧ LoopX X F pins σ G H s s') X.xe sh ∧ wpAny (model X.prog X.w) A (richCompare .NotEq u v) (fun r s' => r = .bool (!b) ∧ LoopX X F pins σ G H s s') X.xe sh := by
  obtain ⟨a, xs, rfl, qa, _, pa⟩ := ax
  obtain ⟨a2, ys, rfl, qb, _, pb⟩ := ay
  cases rx
  cases ry
  obtain ⟨its, r, e, z⟩ := I.tuple (by rw [hK]; exact SqT.sub g.gh qa)
  obtain ⟨its2, r2, e2, z2⟩ := I.tuple (by rw [hK]; exact SqT.sub g.gh qb)
  have s1 : its.toArray.size = ds.length := by rw [List.size_toArray, ← r.length, pa.length]
  have s2 : its2.toArray.size = es.length := by rw [List.size_toArray, ← r2.length, pb.length]
  have h0 : LoopQ X F c sem pins σ G H s ds es b 0 sh := ⟨⟨Nat.zero_le _, Nat.zero_le _, h⟩, H, G, I, Ext.refl _ _ _, g⟩
  have fin : ∀ i s', LoopQ X F c sem pins σ G H s ds es b i s' → min its.toArray.size its2.toArray.size ≤ i → (its.toArray.size == its2.toArray.size) = b ∧ LoopX X F pins σ G H s s' := fun i s' l hi => by
    rw [s1, s2] at hi ⊢
    exact eqQ_fin l hi
  exact ⟨GQ.rc_tupQ sb.room.units0 (LoopQ X F c sem pins σ G H s ds es b) (fun r s' => r = b ∧ LoopX X F pins σ G H s s') e e2 (fun i h1 h2 s' q => eqQ_turn hP hm sb pa pb r r2 i h1 h2 s' q) fin (fun r s' q => ⟨by rw [q.1], q.2⟩) h0,
    GQ.rc_tupNQ sb.room.units0 (LoopQ X F c sem pins σ G H s ds es b) (fun r s' => r = b ∧ LoopX X F pins σ G H s s') e e2 (fun i h1 h2 s' q => eqQ_turn hP hm sb pa pb r r2 i h1 h2 s' q) fin (fun r s' q => ⟨by rw [q.1], q.2⟩) h0⟩
theorem rcQ_lst {k m : Nat} {s : S} {ds es : List D} {b : Bool} (hP : ∀ d ∈ ds, ∀ e r, eqvG c sem s d e = some r → EqQ X F k s d e r) (hm : depXL ds ≤ m) (h : (if ds.length = es.length then eqvL c sem s ds es else some false) = some b) {A : Around} {pins : List (Addr × Obj)} {sh : Shared} {σ : L2.St} {G H : Hp} {x y : V} {u v : Value} (sb : Sub X (k + m + 1) A) (I : Inv X pins σ H sh) (rx : L2.RelV x u) (ry : L2.RelV y v) (g : Gd F.toCc G H s)
    (ax : Rep F.toCc G (.lst ds) x) (ay : Rep F.toCc G (.lst es) y) : wpAny (model X.prog X.w) A (richCompare .Eq u v) (fun r s' => r = .bool b ∧ LoopX X F pins σ G H s s') X.xe sh ∧ wpAny (model X.prog X.w) A (richCompare .NotEq u v) (fun r s' => r = .bool (!b) ∧ LoopX X F pins σ G H s s') X.xe sh := by
  obtain ⟨a, xs, rfl, qa, _, pa⟩ := ax
  obtain ⟨a2, ys, rfl, qb, _, pb⟩ := ay
  cases rx
  cases ry
  have rd0 : ∀ s', LoopX X F pins σ G H s s' → ∃ its its2 : List Value, ∃ n n2, s'.heap.get? a = some { cls := .type "list", data := .seq its.toArray n } ∧ s'.heap.get? a2 = some { cls := .type "list", data := .seq its2.toArray n2 } ∧ Vals xs its ∧ Vals ys its2 := fun s' l => by
    obtain ⟨H1, G1, I1, e1, g1⟩ := l
    obtain ⟨z, its, k1, r, e⟩ := I1.hok a _ (g1.gh _ _ (e1.g _ _ qa))
    obtain ⟨z2, its2, k2, r2, e2⟩ := I1.hok a2 _ (g1.gh _ _ (e1.g _ _ qb))
    exact ⟨its, its2, k1, k2, e, e2, r, r2⟩
  have hx : LoopX X F pins σ G H s sh := ⟨H, G, I, Ext.refl _ _ _, g⟩
  by_cases hl : ds.length = es.length
  · rw [if_pos hl] at h
    have rd : GQ.ReadQ a a2 ds.length (LoopX X F pins σ G H s) := fun s' l => by
      obtain ⟨its, its2, n, n2, e, e2, r, r2⟩ := rd0 s' l
      exact ⟨its.toArray, its2.toArray, n, n2, e, e2, by rw [List.size_toArray, ← r.length, pa.length], by rw [List.size_toArray, ← r2.length, pb.length, hl]⟩
    have turn : ∀ i s', LoopX X F pins σ G H s s' → LoopQ X F c sem pins σ G H s ds es b i s' → ∀ (items items2 : Array Value) (n n2 : Nat), s'.heap.get? a = some { cls := .type "list", data := .seq items n } → s'.heap.get? a2 = some { cls := .type "list", data := .seq items2 n2 } → ∀ (h1 : i < items.size) (h2 : i < items2.size),
        wpAny (model X.prog X.w) A.in1 (eqBool items[i] items2[i]) (fun r s2 => LoopX X F pins σ G H s s2 ∧ ((r = true ∧ LoopQ X F c sem pins σ G H s ds es b (i + 1) s2) ∨ (r = false ∧ (false = b ∧ LoopX X F pins σ G H s s2)))) X.xe s' := fun i s' l q items items2 n n2 g1 g2 h1 h2 => by
      obtain ⟨its, its2, m1, m2, e, e2, r, r2⟩ := rd0 s' l
      rw [e] at g1
      rw [e2] at g2
      cases g1
      cases g2
      refine wpAny_mono (eqQ_turn hP hm sb pa pb r r2 i h1 h2 s' q) (fun r s2 q => ?_) fun _ _ x => x
      rcases q with ⟨q1, q2⟩ | ⟨q1, q2⟩
      · exact ⟨q2.2, .inl ⟨q1, q2⟩⟩
      · exact ⟨q2.2, .inr ⟨q1, q2⟩⟩
    have h0 : LoopQ X F c sem pins σ G H s ds es b 0 sh := ⟨⟨Nat.zero_le _, Nat.zero_le _, h⟩, hx⟩
    have fin : ∀ s', LoopX X F pins σ G H s s' → LoopQ X F c sem pins σ G H s ds es b ds.length s' → true = b ∧ LoopX X F pins σ G H s s' := fun s' _ l => by
      have := eqQ_fin l (Nat.min_le_left _ _)
      rw [hl] at this
      exact ⟨by rw [← this.1]; simp, this.2⟩
    exact ⟨GQ.rc_listQ sb.room.units0 (LoopX X F pins σ G H s) (LoopQ X F c sem pins σ G H s ds es b) (fun r s' => r = b ∧ LoopX X F pins σ G H s s') rd turn fin (fun r s' q => ⟨by rw [q.1], q.2⟩) hx h0,
      GQ.rc_listNQ sb.room.units0 (LoopX X F pins σ G H s) (LoopQ X F c sem pins σ G H s ds es b) (fun r s' => r = b ∧ LoopX X F pins σ G H s s') rd turn fin (fun r s' q => ⟨by rw [q.1], q.2⟩) hx h0⟩
  · rw [if_neg hl] at h
    cases h
    obtain ⟨its, its2, n, n2, e, e2, r, r2⟩ := rd0 sh hx
    have hsz : its.toArray.size ≠ its2.toArray.size := by rw [List.size_toArray, List.size_toArray, ← r.length, ← r2.length, pa.length, pb.length]; exact hl
    exact ⟨GQ.rc_listL sb.room.units0 hsz e e2 ⟨rfl, hx⟩, GQ.rc_listNL sb.room.units0 hsz e e2 ⟨rfl, hx⟩⟩
end
section
variable {c : Str} {sem : List D → M S D} {k : Nat} {f : Addr} {fd : FuncData} {ps : List Str} {s : S}
theorem eqQ_tup {ds : List D} {e : D} {b : Bool} (hK : X.K = F.K) (hP : ∀ d ∈ ds, ∀ e r, eqvG c sem s d e = some r → EqQ X F k s d e r) (h : eqvG c sem s (.tup ds) e = some b) : EqQ X F k s (.tup ds) e b := fun m hm A pins sh σ G H x y u v sb I rx ry g ax ay => by
  cases e with
  | tup es =>
    obtain ⟨a, xs, rfl, qa⟩ := id ax
    obtain ⟨a2, ys, rfl, qb⟩ := id ay
    cases rx
    cases ry
    by_cases hab : a = a2
    · subst hab; exact eqQ_same hK I g h ax ay
    have hm : depXL ds + 1 ≤ m := hm
    obtain ⟨m', rfl⟩ : ∃ m', m = m' + 1 := ⟨m - 1, by omega⟩
    have q := (rcQ_tup hK hP (by omega) h sb I (x := .ref a) (y := .ref a2) (u := .ref a) (v := .ref a2) rfl rfl g ax ay).1
    exact GQ.eqBool_refG hab (wpAny_mono q (fun r s' q => ⟨b, q.1, rfl, q.2⟩) fun _ _ x => x)
  | _ => exact nomatch (show (none : Option Bool) = some b from h)
theorem eqQ_lst {ds : List D} {e : D} {b : Bool} (hK : X.K = F.K) (hP : ∀ d ∈ ds, ∀ e r, eqvG c sem s d e = some r → EqQ X F k s d e r) (h : eqvG c sem s (.lst ds) e = some b) : EqQ X F k s (.lst ds) e b := fun m hm A pins sh σ G H x y u v sb I rx ry g ax ay => by
  cases e with
  | lst es =>
    obtain ⟨a, xs, rfl, qa⟩ := id ax
    obtain ⟨a2, ys, rfl, qb⟩ := id ay
    cases rx
    cases ry
    by_cases hab : a = a2
    · subst hab; exact eqQ_same hK I g h ax ay
    have hm : depXL ds + 1 ≤ m := hm
    obtain ⟨m', rfl⟩ : ∃ m', m = m' + 1 := ⟨m - 1, by omega⟩
    have q := (rcQ_lst hP (by omega) h sb I (x := .ref a) (y := .ref a2) (u := .ref a) (v := .ref a2) rfl rfl g ax ay).1
    exact GQ.eqBool_refG hab (wpAny_mono q (fun r s' q => ⟨b, q.1, rfl, q.2⟩) fun _ _ x => x)
  | _ => exact nomatch (show (none : Option Bool) = some b from h)
theorem eqQ_ins {c1 : Str} {fs : List (Str × D)} {e : D} {b : Bool} (hK : X.K = F.K) (tk : Takes X F.wish) (Fn : FnOk X.prog X.w X.K X.mg X.base (L2.CX X.prog X.w) k f fd ps (spD F.toCc 2 sem))
    (hs : PySem.W.findIn X.K (.ref (F.cad c)) "__eq__" = some (some (.ref f))) (hf : PySem.W.isFn X.K (.ref f) = true) (hb : Binds X.K fd ps []) (h : eqvG c sem s (.ins c1 fs) e = some b) : EqQ X F k s (.ins c1 fs) e b := fun m hm A pins sh σ G H x y u v sb I rx ry g ax ay => by
  cases e with
  | ins c2 gs =>
    have h' := h
    have h : (if c1 = c ∧ c2 = c then eqvI c sem s fs gs else none) = some b := h
    by_cases hc : c1 = c ∧ c2 = c
    rotate_left
    · rw [if_neg hc] at h; cases h
    rw [if_pos hc] at h
    obtain ⟨rfl, rfl⟩ := hc
    have hg : sem [.ins c2 fs, .ins c2 gs] s = .ok (.bl b) s := by
      unfold eqvI at h
      split at h
      · rename_i hh
        cases h
        exact hh.2.2
      · cases h
    have r2' : RepL F.toCc G [D.ins c2 fs, D.ins c2 gs] [x, y] := RepL.cons ax (RepL.one ay)
    obtain ⟨a, dx, vs, rfl, qa, qd, pa⟩ := id ax
    obtain ⟨a2, dy, us, rfl, qb, qe, pb⟩ := id ay
    cases rx
    cases ry
    by_cases hab : a = a2
    · subst hab; exact eqQ_same hK I g h' ax ay
    obtain ⟨mA, J, _⟩ := ins_get I.hok (g.gh _ _ qa)
    obtain ⟨mB, J', _⟩ := ins_get I.hok (g.gh _ _ qb)
    obtain ⟨od, J, _⟩ := J.look
    obtain ⟨od', J', _⟩ := J'.look
    obtain ⟨mm, hF⟩ := I.fr
    refine GQ.eqBool_refG hab ?_
    refine PySem.W.cmp_K (op := .Eq) (tb := .ref (F.cad c2)) sb.room.units0 hF I.ok.mod.kin J J'.type (by simp [PySem.W.notFirst]) hs hf ?_
    have hsp : spD F.toCc 2 sem [.ref a, .ref a2] H (fun v H' => v = .bl b ∧ ∃ G', Ext F.reg G H G' H' ∧ Gd F.toCc G' H' s) (eOf F) := by
      refine ⟨rfl, G, _, s, g, r2', ?_⟩
      rw [hg]
      intro v G' H' e g' rv
      exact ⟨rv, G', e, g'⟩
    have e0 : Env0 X.prog X.w X.K X.mg X.base A X.stack sh H := by
      have e := I.env0
      exact ⟨by rw [sb.fr]; exact e.frames, e.mod, e.bs, e.bsz, e.funs, e.frf, e.hok, e.bare⟩
    have hl := Fn.len _ _ _ _ hsp
    have r2 : Vals [V.ref a, V.ref a2] [Value.ref a, Value.ref a2] := .cons rfl (.cons rfl .nil)
    refine wpAny_call (codeAny_mono (Fn.run A X.stack sh H ⟨[.ref a, .ref a2], []⟩ [.ref a, .ref a2] [.ref a, .ref a2] _ (eOf F) (sb.room.mono (Nat.le_add_right k m)) e0 (by
      have := hb sh [.ref a, .ref a2] I.kIn (by simpa using hl)
      simpa using this) r2 hsp) fun r s' hq => ?_)
    cases r with
    | error e => exact (passes_F tk) pins σ H sh e s' I hq
    | ok fl =>
      cases fl with
      | ret w =>
        obtain ⟨z, H', I', rz, ez, G', ex, g'⟩ := I.after hq
        subst ez
        cases rz
        exact ⟨b, rfl, rfl, H', G', I', ex, g'⟩
      | next => exact False.elim hq
      | brk => exact False.elim hq
      | cont => exact False.elim hq
  | _ => exact nomatch (show (none : Option Bool) = some b from h)
section
variable (hK : X.K = F.K) (tk : Takes X F.wish) (Fn : FnOk X.prog X.w X.K X.mg X.base (L2.CX X.prog X.w) k f fd ps (spD F.toCc 2 sem)) (hs : PySem.W.findIn X.K (.ref (F.cad c)) "__eq__" = some (some (.ref f))) (hf : PySem.W.isFn X.K (.ref f) = true) (hb : Binds X.K fd ps [])
include hK tk Fn hs hf hb
mutual
theorem eqQ_all : ∀ (d e : D) (r : Bool), eqvG c sem s d e = some r → EqQ X F k s d e r
  | .non, e, r, h => eqQ_flat (d := .non) rfl h
  | .bl b, e, r, h => eqQ_flat (d := .bl b) rfl h
  | .int b, e, r, h => eqQ_flat (d := .int b) rfl h
  | .str b, e, r, h => eqQ_flat (d := .str b) rfl h
  | .tup ds, e, r, h => eqQ_tup hK (eqQ_allL ds) h
  | .lst ds, e, r, h => eqQ_lst hK (eqQ_allL ds) h
  | .ins c1 fs, e, r, h => eqQ_ins hK tk Fn hs hf hb h
  | .dct _, _, r, h => nomatch (show (none : Option Bool) = some r from h)
  | .dks _, _, r, h => nomatch (show (none : Option Bool) = some r from h)
  | .fn _, _, r, h => nomatch (show (none : Option Bool) = some r from h)
  | .adr _ _, _, r, h => nomatch (show (none : Option Bool) = some r from h)
  | .rps _, _, r, h => nomatch (show (none : Option Bool) = some r from h)
  | .scr _, _, r, h => nomatch (show (none : Option Bool) = some r from h)
  | .hnd _, _, r, h => nomatch (show (none : Option Bool) = some r from h)
  | .exc _ _, _, r, h => nomatch (show (none : Option Bool) = some r from h)
theorem eqQ_allL : ∀ (ds : List D), ∀ d ∈ ds, ∀ (e : D) (r : Bool), eqvG c sem s d e = some r → EqQ X F k s d e r
  | [], _, h, _, _, _ => nomatch h
  | d :: ds, d', h, e, r, q => (List.mem_cons.mp h).elim (fun z => by
    have q' : eqvG c sem s d e = some r := by rw [← z]; exact q
    rw [z]
    exact eqQ_all d e r q') fun z => eqQ_allL ds d' z e r q
end
end
/-! ### as an operation -/
open Classical in
noncomputable def eqG (c : Str) (sem : List D → M S D) (m : Nat) (neg : Bool) (d e : D) : M S D := fun s => match eqvG c sem s d e with
  | some b => if depX d ≤ m + 1 ∧ isSq d = true then .ok (.bl (if neg then !b else b)) s else .stk
  | none => .stk
def rEqG (F : Fx S) (c : Str) (sem : List D → M S D) (m : Nat) (neg : Bool) : R2 := fun x y H Q => ∃ G s d e b, Gd F.toCc G H s ∧ eqvG c sem s d e = some b ∧ depX d ≤ m + 1 ∧ isSq d = true ∧ Rep F.toCc G d x ∧ Rep F.toCc G e y ∧ ∀ H' G', Ext F.reg G H G' H' → Gd F.toCc G' H' s → Q (.bl (if neg then !b else b)) H'
theorem rcQ_all {m : Nat} {C : Addr} {d e : D} {b : Bool} (hC : F.cad c = C) (hK : X.K = F.K) (tk : Takes X F.wish) (Fn : FnOk X.prog X.w X.K X.mg X.base (L2.CX X.prog X.w) k f fd ps (spD F.toCc 2 sem)) (hr : Room (k + m + 1) X.A) (hb : Binds X.K fd ps [])
    (hs : PySem.W.findIn X.K (.ref C) "__eq__" = some (some (.ref f))) (hf : PySem.W.isFn X.K (.ref f) = true) (h : eqvG c sem s d e = some b) (dm : depX d ≤ m + 1) (iq : isSq d = true)
    {pins : List (Addr × Obj)} {sh : Shared} {σ : L2.St} {G H : Hp} {x y : V} {u v : Value} (I : Inv X pins σ H sh) (rx : L2.RelV x u) (ry : L2.RelV y v) (g : Gd F.toCc G H s) (ax : Rep F.toCc G d x) (ay : Rep F.toCc G e y) :
    wpAny (model X.prog X.w) X.A (richCompare .Eq u v) (fun r s' => r = .bool b ∧ LoopX X F pins σ G H s s') X.xe sh ∧ wpAny (model X.prog X.w) X.A (richCompare .NotEq u v) (fun r s' => r = .bool (!b) ∧ LoopX X F pins σ G H s s') X.xe sh := by
  cases d with
  | tup ds =>
    cases e with
    | tup es =>
      have dm : depXL ds + 1 ≤ m + 1 := dm
      exact rcQ_tup hK (eqQ_allL hK tk Fn (by rw [hC]; exact hs) hf hb ds) (Nat.le_of_succ_le_succ dm) h ⟨hr, rfl⟩ I rx ry g ax ay
    | _ => exact nomatch (show (none : Option Bool) = some b from h)
  | lst ds =>
    cases e with
    | lst es =>
      have dm : depXL ds + 1 ≤ m + 1 := dm
      exact rcQ_lst (eqQ_allL hK tk Fn (by rw [hC]; exact hs) hf hb ds) (Nat.le_of_succ_le_succ dm) h ⟨hr, rfl⟩ I rx ry g ax ay
    | _ => exact nomatch (show (none : Option Bool) = some b from h)
  | _ => cases iq
theorem or_eqG {m : Nat} {C : Addr} (hC : F.cad c = C) (hK : X.K = F.K) (tk : Takes X F.wish) (Fn : FnOk X.prog X.w X.K X.mg X.base (L2.CX X.prog X.w) k f fd ps (spD F.toCc 2 sem)) (hr : Room (k + m + 1) X.A) (hb : Binds X.K fd ps [])
    (hs : PySem.W.findIn X.K (.ref C) "__eq__" = some (some (.ref f))) (hf : PySem.W.isFn X.K (.ref f) = true) : OpR X (compareOp .Eq) (rEqG F c sem m false) := by
  intro pins s σ H x y v u Q I rx ry hq
  obtain ⟨G, st, d, e, b, g, h, dm, iq, ax, ay, q⟩ := hq
  show wpAny (model X.prog X.w) X.A (richCompare .Eq v u) (EP X pins σ Q) X.xe s
  refine wpAny_mono (rcQ_all hC hK tk Fn hr hb hs hf h dm iq I rx ry g ax ay).1 (fun r s' z => ?_) fun _ _ x => x
  obtain ⟨hr', H', G', I', e, g'⟩ := z
  subst hr'
  exact ⟨.bl b, H', I', rfl, q H' G' e g'⟩
theorem od_eqG {m : Nat} {neg : Bool} : OpD F (rEqG F c sem m neg) (eqG c sem m neg) := fun G σ H env s d e x y Q st rx ry p => by
  unfold eqG at p
  cases h : eqvG c sem s d e with
  | none => simp only [h] at p; exact p.elim
  | some b =>
    simp only [h] at p
    by_cases hh : depX d ≤ m + 1 ∧ isSq d = true
    · rw [if_pos hh] at p
      exact ⟨G, s, d, e, b, st.gd, h, hh.1, hh.2, rx, ry, fun H' G' e' g' => p _ G' H' e' (st.ext' e' g') rfl⟩
    · rw [if_neg hh] at p; exact p.elim
end
end
end DL
set_option Elab.async false
set_option linter.all false
set_option maxRecDepth 100000
set_option maxHeartbeats 4000000
set_option autoImplicit false
/-! DL: a, b = (a new list), (a value) -/
namespace DL
open PySem PySem.Spec PyProof.Rows L2
end DL
set_option Elab.async false
set_option linter.all false
set_option maxRecDepth 100000
set_option maxHeartbeats 400000
set_option autoImplicit false
/-! DL: x = a comprehension over any thing, as a list of one's own -/
namespace DL
open PySem PySem.Spec PyProof.Rows L2
section
variable {S : Type} {X : Cx} {F : Fx S}
variable {elt tg iter : Expr} {ifs : List Expr} {scope : Scope} {own : List (Str × Nat)} {pos spos : Pos} {g : TG} {ι : Env → M S (List D)} {γ : D → Env → M S Env} {t : Env → M S Bool} {e : Env → M S D}
theorem NxO.ext {i : Nat} {τ : Env → M S D} : NxO (sExt i τ) := fun env s fl s' q => by
  have q : (match env[i]? with
    | some (some (.own _)) => do
      let d ← τ env
      (match env[i]? with
      | some (some (.own ds)) => onLst (fun es => grd (ds.length + es.length ≤ sizeLine) (pure (.nx (env.set i (some (.own (ds ++ es))))))) d
      | _ => stk)
    | _ => stk : M S Flw) s = .ok fl s' := q
  cases hi : env[i]? with
  | none => rw [hi] at q; cases q
  | some sl =>
    rw [hi] at q
    cases sl with
    | none => cases q
    | some sl =>
      cases sl with
      | val _ => cases q
      | obj _ _ => cases q
      | own ds =>
        obtain ⟨d, s1, q1, q2⟩ := bind_ok q
        cases d with
        | lst es =>
          have q2 : grd (ds.length + es.length ≤ sizeLine) (pure (.nx (env.set i (some (.own (ds ++ es)))))) s1 = Res.ok fl s' := q2
          by_cases h : ds.length + es.length ≤ sizeLine
          · rw [grd_pos h] at q2; cases q2; exact ⟨_, rfl⟩
          · unfold grd at q2; rw [if_neg h] at q2; cases q2
        | _ => cases q2
end
end DL
set_option Elab.async false
set_option linter.all false
set_option maxRecDepth 100000
set_option maxHeartbeats 4000000
set_option autoImplicit false
/-! DL: own[i] = e -/
namespace DL
open PySem PySem.Spec PyProof.Rows L2
section
variable {S : Type} {X : Cx} {F : Fx S}
theorem RepL.set {C : Cc S} {G : Hp} : ∀ (n : Nat) {ds : List D} {vs : List V} {d : D} {v : V}, RepL C G ds vs → Rep C G d v → RepL C G (ds.set n d) (vs.set n v)
  | _, [], _, _, _, r, _ => by
    have e1 : _ = [] := r
    subst e1; rfl
  | 0, _ :: _, _, _, _, ⟨_, _, ev, _, b⟩, rd => by subst ev; exact RepL.cons rd b
  | n + 1, _ :: _, _, _, _, ⟨_, _, ev, a, b⟩, rd => by subst ev; exact RepL.cons a (b.set n rd)
def sSetI (k : Nat) (τi τe : Env → M S D) : Env → M S Flw := fun env => match ownD env k with
  | some ds => do
    let d ← τe env
    let i ← τi env
    onInt (fun j => match ixN ds.length j with
      | some n => pure (.nx (env.set k (some (.own (ds.set n d)))))
      | none => stk) i
  | none => stk
theorem ds_setI {k : Nat} {o i e : Expr} {τi τe : Env → M S D} {tpos pos : Pos} (ho : PE X o (tVar k)) (hi : PE X i (tE F τi)) (he : PE X e (tE F τe))
    (hs : swapsWithSole [.Subscript o i tpos] e pos.line X.env = pure false := by rfl) (hw : swappedStores [.Subscript o i tpos] e X.env = pure none := by rfl)
    (h1 : (assignEach [.Subscript o i tpos] X.env).map (·.2) = [assign (.Subscript o i tpos) X.env] := by rfl)
    (ha : ∀ v, assign (.Subscript o i tpos) X.env v = (do
      let ov ← holding [v] (eval o X.env)
      let iv ← holding [v, ov] (eval i X.env)
      standAt tpos
      holding [v, ov, iv] (setItem ov iv v)
      release [v, ov, iv] []) := by intro _; rfl) : PS X (.Assign [.Subscript o i tpos] e pos) (tS F (sSetI k τi τe)) :=
  ps_mono (ps_asg he (pg_sub ho hi set_list ha) hs hw h1) fun E σ H ⟨G, env, s, st, p⟩ => by
    unfold sSetI at p
    cases q : ownD env k with
    | none => rw [q] at p; exact p.elim
    | some ds =>
      rw [q] at p
      refine seqE st p fun d s1 v G1 H1 e1 st1 r1 p1 => ?_
      obtain ⟨a, vs1, hσ, _, _, _, _, _, _⟩ := own_at st1 (ownD_at q)
      refine ⟨.ref a, hσ, ?_⟩
      refine seqE st1 p1 fun j s2 x G2 H2 e2 st2 r2 p2 => ?_
      obtain ⟨n, rfl, p3⟩ := Post.onInt p2
      obtain ⟨a', vs, hσ2, hH, hG, nr, h0, hz, rl⟩ := own_at st2 (ownD_at q)
      rw [hσ] at hσ2
      cases hσ2
      cases hn : ixN ds.length n with
      | none => rw [hn] at p3; exact p3.elim
      | some m =>
        rw [hn] at p3
        cases r2
        refine ⟨a, vs, n, m, rfl, rfl, hH, by rw [rl.length]; exact hn, ?_⟩
        exact p3 σ G2 _ (e1.g.trans e2.g) (st2.put (ownD_at q) hσ (rl.set m (r1.mono e2.g)) (by rw [List.length_set]; exact hz))
end
end DL
set_option Elab.async false
set_option linter.all false
set_option maxRecDepth 100000
set_option maxHeartbeats 1000000
set_option autoImplicit false
/-! DL: sorted, of a list of bools -/
namespace DL
section
open PySem PyProof.Rows Srt SrtO
variable {prog : Program} {w : World} {A : Around} {E : Value → Shared → Prop} {s : Shared}
theorem slot_bool_lt' : PySem.Slot "bool" (cmpInfo .Lt).2.1 "int.__lt__" :=
  .of (owner := "int") (n := "__lt__") (by rw [typeLookup_type, builtinLookup_eq_fast]; kernel_rfl) (by decide +kernel) (by decide +kernel) (by decide +kernel)
    (by first | exact .inl (by decide +kernel) | exact .inr (by decide +kernel)) (by rw [isSubtype_type]; kernel_rfl)
def bv : Value → Bool
  | .bool b => b
  | _ => false
def ltBv (v u : Value) : Bool := !bv v && bv u
theorem swo_bool : Swo ltBv := by
  refine ⟨fun x y h => ?_, fun x y z h1 h2 => ?_⟩
  · unfold ltBv at h ⊢; cases hx : bv x <;> cases hy : bv y <;> simp_all
  · unfold ltBv at h1 h2 ⊢; cases hx : bv x <;> cases hy : bv y <;> cases hz : bv z <;> simp_all
theorem typeIs_bool (s : Shared) (b : Bool) : s.TypeIs (.bool b) "bool" := rfl
theorem call_bool_lt {a b : Bool} {Q : Value → Shared → Prop} (h : Q (.bool (!a && b)) s) :
    wpAny (model prog w) A (call (.builtin "int.__lt__") [.bool a, .bool b]) Q E s := by
  refine wpAny_call_entry slot_bool_lt' (typeIs_bool s a) entry_int_lt ?_ (args_int_lt _ _)
  obtain ⟨hp, g, d, tk, os⟩ := s
  wp_walk
  refine ⟨_, rfl, ?_⟩
  cases a <;> cases b <;> exact h
theorem oneLt_bool {a b : Bool} {Q : Bool → Shared → Prop} (h : Q (!a && b) s) : wpAny (model prog w) A (oneLt' true (.bool a) (.bool b)) Q E s := by
  rw [oneLt'_eq]
  simp only [if_true]
  refine wpAny_bind (wpAny_cRoomFor_byValue rfl ?_)
  refine wpAny_bind (wpAny_callSpecialIfBound?_slot (typeIs_bool s a) slot_bool_lt' (call_bool_lt ?_))
  exact wpAny_truthy_bool h
theorem firsts_bools : ∀ vs : List Bool, (vs.map Value.bool).mapM firstOfTuple' = pure (vs.map fun _ => none)
  | [] => by simp
  | b :: vs => by
    rw [List.map_cons, List.mapM_cons, firsts_bools vs]
    show (firstOfTuple' (.bool b) >>= fun x => _) = _
    rw [show firstOfTuple' (.bool b) = pure none from rfl]; simp
theorem types_bools : ∀ vs : List Bool, (vs.map Value.bool).mapM typeOf = pure (vs.map fun _ => Value.type "bool")
  | [] => by simp
  | b :: vs => by
    rw [List.map_cons, List.mapM_cons, types_bools vs]
    show (pure (Value.type "bool") >>= fun b => pure _ >>= fun bs => pure (b :: bs)) = _
    simp
theorem keyKind_bools {b : Bool} {vs : List Bool} : keyKind' ((b :: vs).map Value.bool).toArray = pure oneType' := by
  rw [keyKind'_eq, List.mapM_toArray, firsts_bools]
  simp only [map_pure, pure_bind]
  rw [if_neg (by simp), if_neg (by simp)]
  rw [oneTypeOnly'_eq, List.mapM_toArray, types_bools]
  simp only [map_pure, pure_bind]
  have hall : ((List.map (fun _ => Value.type "bool") (b :: vs)).toArray.all fun x => x == Value.type "bool") = true := by
    simp only [List.all_toArray, List.all_map, List.all_eq_true]
    intro _ _
    rfl
  have h0 : (List.map (fun _ => Value.type "bool") (b :: vs)).toArray[0]? = some (Value.type "bool") := by simp
  rw [h0]
  simp only [hall, if_true, pure_bind, Option.isSome_some]
theorem bools_sortable {a : Addr} {vs : List Bool} (h2 : 2 ≤ vs.length) : SortableO prog w A s a (vs.map Value.bool) ltBv := by
  intro h' _
  refine ⟨oneType', fun Q E hq => ?_, ?_⟩
  · match vs, h2 with
    | b :: vs, _ =>
      rw [keyKind_bools]
      exact wpAny_pure hq
    | [], h => exact absurd h (by decide)
  · intro p q hm hm'
    obtain ⟨x, _, e⟩ := List.mem_map.mp (show p.1 ∈ vs.map Value.bool from hm)
    obtain ⟨y, _, e'⟩ := List.mem_map.mp (show q.1 ∈ vs.map Value.bool from hm')
    show wpAny (model prog w) A (keyLt' oneType' p.1 q.1) (fun r s' => s' = _ ∧ r = ltBv p.1 q.1) (fun _ _ => False) _
    rw [← e, ← e', keyLt'_oneType]
    exact oneLt_bool ⟨rfl, rfl⟩
end
open PySem PySem.Spec PyProof.Rows L2
/-- falses ahead of trues -/
def srtB (bs : List Bool) : List Bool := (bs.filter fun b => !b) ++ bs.filter fun b => b
def rSortedB (K : PySem.W.Frag) : List V → Hp → VK → Prop := fun vs H Q => ∃ (a : Addr) (bs : List Bool), vs = [V.ref a] ∧ SqL K H a (bs.map V.bl) ∧ ∀ p : Addr, H p = none → Q (.ref p) (upd H p (.lst ((srtB bs).map V.bl)))
theorem vals_bools : ∀ {bs : List Bool} {us : List Value}, Vals (bs.map V.bl) us → us = bs.map Value.bool
  | [], _, .nil => rfl
  | b :: bs, _, .cons h r => by
    rw [vals_bools r]
    have h : _ = Value.bool b := h
    rw [h]; rfl
theorem bools_vals : ∀ bs : List Bool, Vals (bs.map V.bl) (bs.map Value.bool)
  | [] => .nil
  | b :: bs => .cons rfl (bools_vals bs)
theorem srtB_uniq : ∀ {xs ys : List Bool}, xs.Perm ys → (xs.map Value.bool).Pairwise (fun v u => ltBv u v = false) → xs = srtB ys := fun {xs ys} hp hs => by
  have key : ∀ xs : List Bool, (xs.map Value.bool).Pairwise (fun v u => ltBv u v = false) → xs = srtB xs := fun xs => by
    induction xs with
    | nil => intro _; rfl
    | cons b xs ih =>
      intro h
      rw [List.map_cons, List.pairwise_cons] at h
      have ih := ih h.2
      cases b with
      | false =>
        show false :: xs = srtB (false :: xs)
        have : srtB (false :: xs) = false :: srtB xs := rfl
        rw [this, ← ih]
      | true =>
        have all : ∀ c ∈ xs, c = true := fun c hc => by
          have := h.1 (Value.bool c) (List.mem_map.mpr ⟨c, hc, rfl⟩)
          cases c with
          | true => rfl
          | false => cases this
        have e1 : xs.filter (fun b => !b) = [] := List.filter_eq_nil_iff.mpr fun c hc => by rw [all c hc]; simp
        have e2 : xs.filter (fun b => b) = xs := List.filter_eq_self.mpr fun c hc => all c hc
        show true :: xs = (xs.filter fun b => !b) ++ (true :: xs.filter fun b => b)
        rw [e1, e2]; rfl
  have e1 := (hp.filter (fun b => !b))
  have e2 := (hp.filter (fun b => b))
  have rep : ∀ (l m : List Bool) (c : Bool), l.Perm m → (∀ x ∈ l, x = c) → l = m := fun l m c p h => by
    have hl := List.eq_replicate_of_mem h
    have hm := List.eq_replicate_of_mem fun x hx => h x (p.mem_iff.mpr hx)
    rw [hl, hm, p.length_eq]
  rw [key xs hs]
  unfold srtB
  rw [rep _ _ false e1 fun x hx => by have := (List.mem_filter.mp hx).2; simpa using this, rep _ _ true e2 fun x hx => by have := (List.mem_filter.mp hx).2; simpa using this]
section
variable {X : Cx}
theorem cr_sortB : CallR X (.builtin "sorted") (rSortedB X.K) := by
  intro pins s σ H vs us Q I r h
  obtain ⟨a, bs, rfl, hs, q⟩ := h
  obtain ⟨its, rv, hl, hz⟩ := I.list hs
  rw [Vals.ref1 r]
  have e := vals_bools rv
  subst e
  refine SrtO.sorted_ord swo_bool hl.isList (by rw [List.length_map] at hz ⊢; exact hz) (fun h2 h₁ a' _ _ => bools_sortable (by rw [List.length_map] at h2; exact h2)) fun out h1 h2 => ?_
  obtain ⟨cs, rfl⟩ : ∃ cs : List Bool, out = cs.map Value.bool := by
    have hm : ∀ v ∈ out, ∃ b, v = Value.bool b := fun v hv => by
      obtain ⟨b, _, e⟩ := List.mem_map.mp (h2.perm.mem_iff.mp hv)
      exact ⟨b, e.symm⟩
    refine ⟨out.map bv, ?_⟩
    rw [List.map_map]
    exact (List.map_id out).symm.trans (List.map_congr_left fun v hv => by obtain ⟨b, rfl⟩ := hm v hv; rfl)
  have hp : cs.Perm bs := by
    have := h2.perm.map bv
    rw [List.map_map, List.map_map] at this
    have i : ∀ l : List Bool, l.map (bv ∘ Value.bool) = l := fun l => (List.map_congr_left fun b _ => rfl).trans (List.map_id l)
    rwa [i, i] at this
  have hc := srtB_uniq hp h1
  subst hc
  obtain ⟨ep, he'⟩ := PyProof.Rows.sortedAll_at s.heap (bs.map Value.bool) ((srtB bs).map Value.bool).toArray
  have hlen : ((srtB bs).map V.bl).length ≤ sizeLine := by
    rw [List.length_map, hp.length_eq]
    rw [List.length_map] at hz
    exact hz
  exact ⟨.ref _, upd H (s.heap.objs.size + 1) (.lst ((srtB bs).map V.bl)), I.laid (t' := s.toks) (fun _ _ => PyProof.Rows.sortedAll_old) (Nat.le_succ _) ⟨hlen, (srtB bs).map Value.bool, ep, bools_vals _, he'⟩, rfl, q _ (I.hok.fresh (Nat.le_succ _))⟩
end
section
variable {S : Type} {X : Cx} {F : Fx S}
theorem RepL.bools {C : Cc S} {G : Hp} : ∀ bs : List Bool, RepL C G (bs.map D.bl) (bs.map V.bl)
  | [] => rfl
  | b :: bs => ⟨_, _, rfl, rfl, RepL.bools bs⟩
/-- sorted, of a list of bools -/
def sortBD : List D → M S D := a1 (onLst fun ds => match blsD ds with
  | some bs => pure (.lst ((srtB bs).map D.bl))
  | none => stk)
theorem cd_sortB (hK : X.K = F.K) : CallD F (rSortedB X.K) sortBD := fun G σ H env s ds vs Q st r p => by
  rw [hK]
  obtain ⟨d, rfl, p1⟩ := p.a1
  obtain ⟨v, rfl, rv⟩ := r.r1
  obtain ⟨ds, rfl, p2⟩ := p1.onLst
  obtain ⟨a, us, rfl, q, z, rl⟩ := rv
  cases hb : blsD ds with
  | none => rw [hb] at p2; exact p2.elim
  | some bs =>
    rw [hb] at p2
    have e := blsD_rep rl hb
    subst e
    refine ⟨a, bs, rfl, .inl (.inl (st.gd.gh _ _ q)), fun l nl => ?_⟩
    obtain ⟨e4, st4⟩ := st.new nl (.lst ((srtB bs).map V.bl))
    refine p2 _ _ _ e4 st4 ⟨l, _, rfl, upd_same, ?_, RepL.bools _⟩
    rw [List.length_map] at z ⊢
    unfold srtB
    rw [List.length_append]
    have : ∀ l : List Bool, (l.filter fun b => !b).length + (l.filter fun b => b).length = l.length := fun l => by
      induction l with
      | nil => rfl
      | cons b l ih => cases b <;> simp <;> omega
    rw [this]; exact z
end
end DL
set_option Elab.async false
set_option linter.all false
set_option maxRecDepth 100000
set_option maxHeartbeats 4000000
set_option autoImplicit false
/-! printed by tools/k11.py: the law k11 -/
namespace DL
open PySem PySem.Spec PyProof.Rows L2
abbrev N__law_fates_of : List Str := ["_law_made_here", "_law_date"]
def rd__law_fates_of {S : Type} (cs : List Str) : Env → M S Flw :=
  (sRet (cmp [1] (iR1 (aCons (rC (.int 130)) aNil)) (gNm 1) tYs (cao "Script" (sem_Script___call__ cs) 2 (rVar 0) (aCons (rVar 1) aNil))))
def sem__law_fates_of {S : Type} (cs : List Str) : List D → M S D := runB (rd__law_fates_of cs) N__law_fates_of
abbrev N_Script___eq__ : List Str := ["self", "other"]
noncomputable def rd_Script___eq__ {S : Type} (cs : List Str) : Env → M S Flw :=
  (sRet (andV (isi (tb_kit_own_Script cs) (rVar 1)) (bin (eqG "Rhythm" (sem_Rhythm___eq__ cs) 5 false) (fldC "Script" "own_steps" (rVar 0)) (fldC "Script" "own_steps" (rVar 1)))))
noncomputable def sem_Script___eq__ {S : Type} (cs : List Str) : List D → M S D := runB (rd_Script___eq__ cs) N_Script___eq__
abbrev N_law : List Str := ["_law_script", "_law_draw", "_law_turn", "_law_models", "_law_one", "_law_other", "_law_both", "_law_date", "_law_inner", "_law_k", "_law_whole", "_law_apart", "_law_first", "_law_second", "_law_added", "_law_beats", "_law_model", "_law_kept", "_law_struck", "_law_twice", "_law_met"]
noncomputable def rd_law (cs : List Str) (cells : List Int) : Env → M DrS Flw :=
  (sSeq (sFor (iR1 (aCons (bin addD (rC (.int 4)) (bcl min2D (aCons (bcl lenD (aCons (rVar 0) aNil)) (aCons (rC (.int 16)) aNil)))) aNil)) (gNm 2) (sSeq (sOwn 3 (aCons (cal (sem__law_steps cells) [] 4 (aCons (rVar 1) (aCons (rC (.int 4)) (aCons (rC (.int 40)) (aCons (rC (.bl false)) aNil))))) (aCons (cal (sem__law_steps cells) [] 4 (aCons (rVar 1) (aCons (rC (.int 3)) (aCons (rC (.int 40)) (aCons (rC (.bl false)) aNil))))) aNil))) (sSeq (sIf (asT (bin gtD (bcl lenD (aCons (cal sem__law_flat [] 1 (aCons (bin addD (ixO 3 (rC (.int 0))) (ixO 3 (rC (.int 1)))) aNil)) aNil)) (rC (.int 11)))) (sSetI 3 (rC (.int 1)) (lstD aNil)) sNx) (sSeq (sPar 4 5 (aCons (cal (sem__law_made cs) [] 1 (aCons (ixO 3 (rC (.int 0))) aNil)) (aCons (cal (sem__law_made cs) [] 1 (aCons (ixO 3 (rC (.int 1))) aNil)) aNil))) (sSeq (sAsg (bin (opOwn "Script" (sem_Script___add__ cs)) (rVar 4) (rVar 5)) (gNm 6)) (sSeq (sFor (iR1 (aCons (rC (.int 130)) aNil)) (gNm 7) (sSeq (sIf (andT (asT (bin (isND false) (cao "Script" (sem_Script___call__ cs) 2 (rVar 4) (aCons (rVar 7) aNil)) (rC .non))) (asT (bin (isND true) (cao "Script" (sem_Script___call__ cs) 2 (rVar 6) (aCons (rVar 7) aNil)) (rC .non)))) (sRet (rC (.bl false))) sNx) (sIf (andT (asT (bin (isND true) (cao "Script" (sem_Script___call__ cs) 2 (rVar 4) (aCons (rVar 7) aNil)) (rC .non))) (andT (asT (bin geD (cao "Script" (sem_Script___call__ cs) 2 (rVar 4) (aCons (rVar 7) aNil)) (rC (.int 0)))) (asT (bin (eqD true) (cao "Script" (sem_Script___call__ cs) 2 (rVar 6) (aCons (rVar 7) aNil)) (cao "Script" (sem_Script___call__ cs) 2 (rVar 5) (aCons (cao "Script" (sem_Script___call__ cs) 2 (rVar 4) (aCons (rVar 7) aNil)) aNil)))))) (sRet (rC (.bl false))) sNx))) (sSeq (sAsg (cmp [9] (iR1 (aCons (bin addD (rC (.int 1)) (cal (sem__law_take cells) [] 2 (aCons (rVar 1) (aCons (rC (.int 3)) aNil)))) aNil)) (gNm 9) tYs (cal (sem__law_plain_step cells) [] 3 (aCons (rVar 1) (aCons (rC (.int 12)) (aCons (rC (.int 30)) aNil))))) (gNm 8)) (sSeq (sPar 10 11 (aCons (cal (sem__law_made cs) [] 1 (aCons (lstD (aCons (tupD (aCons (rC (.str "since")) (aCons (negD (rC (.int 100))) (aCons (bcl tupleD (aCons (rVar 8) aNil)) aNil)))) aNil)) aNil)) (aCons (cal (sem__law_made cs) [] 1 (aCons (rVar 8) aNil)) aNil))) (sSeq (sIf (asT (bin (eqD true) (cal (sem__law_fates_of cs) [] 1 (aCons (rVar 10) aNil)) (cal (sem__law_fates_of cs) [] 1 (aCons (rVar 11) aNil)))) (sRet (rC (.bl false))) sNx) (sSeq (sPar 12 13 (aCons (bin subD (cal (sem__law_take cells) [] 2 (aCons (rVar 1) (aCons (rC (.int 41)) aNil))) (rC (.int 20))) (aCons (bin subD (cal (sem__law_take cells) [] 2 (aCons (rVar 1) (aCons (rC (.int 41)) aNil))) (rC (.int 20))) aNil))) (sSeq (sAsg (mk "Script" (sem_Script___init__ cs) [] 1 (aCons (lstD (aCons (tupD (aCons (rC (.str "shift")) (aCons (bin addD (rVar 12) (rVar 13)) aNil))) aNil)) aNil)) (gNm 14)) (sSeq (sIf (asT (bin (eqD true) (cal (sem__law_fates_of cs) [] 1 (aCons (mk "Script" (sem_Script___init__ cs) [] 1 (aCons (lstD (aCons (tupD (aCons (rC (.str "shift")) (aCons (rVar 12) aNil))) (aCons (tupD (aCons (rC (.str "shift")) (aCons (rVar 13) aNil))) aNil))) aNil)) aNil)) (cal (sem__law_fates_of cs) [] 1 (aCons (rVar 14) aNil)))) (sRet (rC (.bl false))) sNx) (sSeq (sIf (asT (bin (eqD true) (cal (sem__law_fates_of cs) [] 1 (aCons (bin (opOwn "Script" (sem_Script___add__ cs)) (rVar 4) (mk "Script" (sem_Script___init__ cs) [] 1 (aCons (lstD (aCons (tupD (aCons (rC (.str "shift")) (aCons (rC (.int 0)) aNil))) aNil)) aNil))) aNil)) (cal (sem__law_fates_of cs) [] 1 (aCons (rVar 4) aNil)))) (sRet (rC (.bl false))) sNx) (sSeq (sOwn 3 (aCons (cal (sem__law_rhythm cells) [] 2 (aCons (rVar 1) (aCons (rC (.int 12)) aNil))) (aCons (cal (sem__law_rhythm cells) [] 2 (aCons (rVar 1) (aCons (rC (.int 12)) aNil))) aNil))) (sSeq (sAsg (cmp [16] (iOwn 3) (gNm 16) tYs (mk "Rhythm" (sem_Rhythm___init__ cs) [] 2 (aCons (bin ixD (rVar 16) (rC (.int 0))) (aCons (bcl listD (aCons (bin ixD (rVar 16) (rC (.int 1))) aNil)) aNil)))) (gNm 15)) (sSeq (sPar 17 18 (aCons (mk "Script" (sem_Script___init__ cs) [] 1 (aCons (lstD (aCons (tupD (aCons (rC (.str "keep")) (aCons (bin ixD (rVar 15) (rC (.int 0))) aNil))) aNil)) aNil)) (aCons (mk "Script" (sem_Script___init__ cs) [] 1 (aCons (lstD (aCons (tupD (aCons (rC (.str "strike")) (aCons (bin ixD (rVar 15) (rC (.int 0))) aNil))) aNil)) aNil)) aNil))) (sSeq (sFor (iR1 (aCons (rC (.int 40)) aNil)) (gNm 7) (sIf (asT (bin (eqD true) (bcl sortBD (aCons (lstD (aCons (bin (isND false) (cao "Script" (sem_Script___call__ cs) 2 (rVar 17) (aCons (rVar 7) aNil)) (rC .non)) (aCons (bin (isND false) (cao "Script" (sem_Script___call__ cs) 2 (rVar 18) (aCons (rVar 7) aNil)) (rC .non)) aNil))) aNil)) (lstD (aCons (rC (.bl false)) (aCons (rC (.bl true)) aNil))))) (sRet (rC (.bl false))) sNx)) (sSeq (sPar 19 20 (aCons (mk "Script" (sem_Script___init__ cs) [] 1 (aCons (lstD (aCons (tupD (aCons (rC (.str "keep")) (aCons (bin ixD (rVar 15) (rC (.int 0))) aNil))) (aCons (tupD (aCons (rC (.str "keep")) (aCons (bin ixD (rVar 15) (rC (.int 1))) aNil))) aNil))) aNil)) (aCons (mk "Script" (sem_Script___init__ cs) [] 1 (aCons (lstD (aCons (tupD (aCons (rC (.str "keep")) (aCons (bin (opOwn "Rhythm" (sem_Rhythm___and__ cs)) (bin ixD (rVar 15) (rC (.int 0))) (bin ixD (rVar 15) (rC (.int 1)))) aNil))) aNil)) aNil)) aNil))) (sSeq (sIf (asT (bin (eqD true) (cal (sem__law_fates_of cs) [] 1 (aCons (rVar 19) aNil)) (cal (sem__law_fates_of cs) [] 1 (aCons (rVar 20) aNil)))) (sRet (rC (.bl false))) sNx) (sIf (orT (asT (bin (eqD true) (cal (sem__law_fates_of cs) [] 1 (aCons (bin (opOwn "Script" (sem_Script___add__ cs)) (rVar 17) (rVar 18)) aNil)) (bin repD (lstD (aCons (rC .non) aNil)) (rC (.int 130))))) (asT (bin (orD (neOwn "Script" (sem_Script___eq__ cs)) (eqD true) fun d _ => isIns d) (bin (opOwn "Script" (sem_Script___add__ cs)) (bin (opOwn "Script" (sem_Script___add__ cs)) (rVar 4) (rVar 5)) (rVar 17)) (bin (opOwn "Script" (sem_Script___add__ cs)) (rVar 4) (bin (opOwn "Script" (sem_Script___add__ cs)) (rVar 5) (rVar 17)))))) (sRet (rC (.bl false))) sNx)))))))))))))))))))) (sRet (rC (.bl true))))
end DL
set_option Elab.async false
set_option linter.all false
set_option maxRecDepth 100000
set_option maxHeartbeats 4000000
set_option autoImplicit false
/-! printed by tools/k18.py: helpers -/
namespace DL
open PySem PySem.Spec PyProof.Rows L2
end DL
set_option Elab.async false
set_option linter.all false
set_option maxRecDepth 100000
set_option maxHeartbeats 1000000
set_option autoImplicit false
/-! DL: texts -/
namespace DL
open PySem PySem.Spec PyProof.Rows L2
end DL
set_option Elab.async false
set_option linter.all false
set_option maxRecDepth 100000
set_option maxHeartbeats 4000000
set_option autoImplicit false
/-! set(xs), xs a list of ints: the library's call_set_tupI (HandS.SetFor), turned to lists -/
namespace DL
open PySem PySem.Spec PyProof.Rows L2
end DL
set_option Elab.async false
set_option linter.all false
set_option maxRecDepth 100000
set_option maxHeartbeats 1000000
set_option autoImplicit false
/-! DL: sorted(set(xs)), xs a list of ints -/
namespace DL
open PySem PySem.Spec PyProof.Rows L2
end DL
set_option Elab.async false
set_option linter.all false
set_option autoImplicit false
/-! DL: x = x + e goes on -/
namespace DL
open PySem PySem.Spec PyProof.Rows L2
end DL
set_option Elab.async false
set_option linter.all false
set_option maxRecDepth 100000
set_option maxHeartbeats 4000000
set_option autoImplicit false
/-! printed by tools/k66.py: helpers -/
namespace DL
open PySem PySem.Spec PyProof.Rows L2
end DL
set_option Elab.async false
set_option linter.all false
set_option maxRecDepth 100000
set_option autoImplicit false
/-! rows that repeat from somewhere on: least rounds, least beginnings (plain) -/
namespace Tab
variable {α : Type} [DecidableEq α]
/-- from N on, f repeats with p -/
def Eper (f : Nat → α) (N p : Nat) : Prop := ∀ d, N ≤ d → f (d + p) = f d
theorem Eper.mul {f : Nat → α} {N p : Nat} (h : Eper f N p) : ∀ k, Eper f N (p * k)
  | 0 => fun d _ => by simp
  | k + 1 => fun d hd => by
    rw [Nat.mul_succ, ← Nat.add_assoc, h (d + p * k) (by omega)]
    exact h.mul k d hd
theorem Eper.mod {f : Nat → α} {N a b : Nat} (ha : Eper f N a) (hb : Eper f N b) : Eper f N (b % a) := fun d hd => by
  have e : b = b % a + a * (b / a) := (Nat.mod_add_div b a).symm
  have h1 := ha.mul (b / a) (d + b % a) (by omega)
  rw [Nat.add_assoc, ← e] at h1
  rw [← h1]; exact hb d hd
theorem Eper.gcd {f : Nat → α} {N : Nat} : ∀ (a b : Nat), Eper f N a → Eper f N b → Eper f N (Nat.gcd a b) := fun a b => by
  induction a, b using Nat.gcd.induction with
  | H0 b => intro _ hb; rw [Nat.gcd_zero_left]; exact hb
  | H1 a b h ih =>
    intro ha hb
    rw [Nat.gcd_rec]
    exact ih (ha.mod hb) ha
/-- a period that holds from N on holds where another one does -/
theorem Eper.back {f : Nat → α} {N M p s : Nat} (hs : 1 ≤ s) (h : Eper f M s) (hp : Eper f N p) : Eper f M p := fun d hd => by
  have k := N
  have e1 := h.mul N d hd
  have e2 := h.mul N (d + p) (by omega)
  have hN : N ≤ d + s * N := by
    have : 1 * N ≤ s * N := Nat.mul_le_mul_right N hs
    omega
  have e3 := hp (d + s * N) hN
  rw [show d + s * N + p = d + p + s * N by omega] at e3
  rw [← e2, e3, e1]
end Tab
set_option Elab.async false
set_option linter.all false
set_option maxRecDepth 100000
set_option maxHeartbeats 4000000
set_option autoImplicit false
/-! fates repeat far out (plain) -/
namespace DL
open PySem PySem.Spec PyProof.Rows L2 Rh
def Pl.sp : Pl → Int
  | .shift n => absI n
  | _ => 0
def Stp.sp : Stp → Int
  | .pl x => x.sp
  | _ => 0
def sumL (l : List Int) : Int := l.foldl (· + ·) 0
theorem sum_from : ∀ (l : List Int) (a : Int), l.foldl (· + ·) a = a + sumL l
  | [], a => by simp [sumL]
  | x :: l, a => by
    have e1 : (x :: l).foldl (· + ·) a = l.foldl (· + ·) (a + x) := rfl
    have e2 : sumL (x :: l) = l.foldl (· + ·) (0 + x) := rfl
    rw [e1, e2, sum_from l (a + x), sum_from l (0 + x)]; omega
theorem sumL_cons (x : Int) (l : List Int) : sumL (x :: l) = x + sumL l := by
  have e2 : sumL (x :: l) = l.foldl (· + ·) (0 + x) := rfl
  rw [e2, sum_from]; omega
theorem sumL_app : ∀ (l m : List Int), sumL (l ++ m) = sumL l + sumL m
  | [], m => by simp [sumL]
  | x :: l, m => by rw [List.cons_append, sumL_cons, sumL_cons, sumL_app l m]; omega
def spanS (xs : List Stp) : Int := sumL ((flatS xs).map Stp.sp)
theorem absI_nn (n : Int) : 0 ≤ absI n ∧ n ≤ absI n ∧ -n ≤ absI n := by unfold absI; split <;> omega
theorem sp_nn (x : Pl) : 0 ≤ x.sp := by cases x <;> simp [Pl.sp] ; exact (absI_nn _).1
theorem sumP_nn : ∀ xs : List Pl, 0 ≤ sumL (xs.map Pl.sp)
  | [] => by simp [sumL]
  | x :: xs => by rw [List.map_cons, sumL_cons]; have := sp_nn x; have := sumP_nn xs; omega
theorem gos_cons {T : Type} (g : T → Int → Option Int) (x : T) (xs : List T) (o : Option Int) : gos g (x :: xs) o = gos g xs (o.bind (g x)) := rfl
/-- how far a step can carry -/
def Stp.all : Stp → Int
  | .pl x => x.sp
  | .since _ xs => sumL (xs.map Pl.sp)
  | _ => 0
theorem all_nn (x : Stp) : 0 ≤ x.all := by
  cases x with
  | pl x => exact sp_nn x
  | add p rs a b => simp [Stp.all]
  | since n xs => exact sumP_nn xs
theorem sumA_nn : ∀ xs : List Stp, 0 ≤ sumL (xs.map Stp.all)
  | [] => by simp [sumL]
  | x :: xs => by rw [List.map_cons, sumL_cons]; have := all_nn x; have := sumA_nn xs; omega
theorem span_all : ∀ xs : List Stp, spanS xs = sumL (xs.map Stp.all)
  | [] => rfl
  | x :: xs => by
    have e : spanS (x :: xs) = sumL (x.flat.map Stp.sp) + spanS xs := by
      unfold spanS flatS
      rw [List.flatMap_cons, List.map_append, sumL_app]
    rw [e, span_all xs, List.map_cons, sumL_cons]
    congr 1
    cases x with
    | pl x => show sumL [x.sp] = x.sp; simp [sumL]
    | add p rs a b => simp [Stp.flat, sumL, Stp.sp, Stp.all]
    | since n ys =>
      show sumL (Stp.sp (.since n ys) :: (ys.map Stp.pl).map Stp.sp) = sumL (ys.map Pl.sp)
      rw [sumL_cons, List.map_map]
      have : (Stp.sp ∘ Stp.pl) = Pl.sp := rfl
      rw [this]
      simp [Stp.sp]
/-- the rounds of all rhythms divide L -/
def divs (L : Int) (xs : List Stp) : Prop := ∀ p ∈ rounds xs, 1 ≤ p ∧ p ∣ L
/-! ### the real steps of a model -/
def Pl.real : Pl → Pl
  | .keep p rs => .keep (leastP p rs) (formR p rs)
  | .strike p rs => .strike (leastP p rs) (formR p rs)
  | x => x
def Stp.real : Stp → Stp
  | .pl x => .pl x.real
  | .add p rs a b => .add (leastP p rs) (formR p rs) a b
  | .since n xs => .since n (xs.map Pl.real)
abbrev reals (xs : List Stp) : List Stp := xs.map Stp.real
theorem flat_real : ∀ xs : List Stp, flatS (reals xs) = (flatS xs).map Stp.real
  | [] => rfl
  | x :: xs => by
    have ih := flat_real xs
    unfold flatS reals at *
    rw [List.map_cons, List.flatMap_cons, List.flatMap_cons, List.map_append, ih]
    congr 1
    cases x with
    | pl x => rfl
    | add p rs a b => rfl
    | since n ys => show _ :: (ys.map Pl.real).map Stp.pl = _ :: (ys.map Stp.pl).map Stp.real; rw [List.map_map, List.map_map]; rfl
theorem sp_real (x : Stp) : x.real.sp = x.sp := by
  cases x with
  | pl x => cases x <;> rfl
  | _ => rfl
theorem span_real (xs : List Stp) : spanS (reals xs) = spanS xs := by
  unfold spanS
  rw [flat_real, List.map_map]
  congr 1
  apply List.map_congr_left
  intro x _
  exact sp_real x
theorem pl_real_wf {x : Pl} (h : x.wf) : x.real.wf := by
  cases x with
  | keep p rs => exact (form_can (h : Wf p rs)).wf
  | strike p rs => exact (form_can (h : Wf p rs)).wf
  | _ => exact h
theorem stp_real_wf {x : Stp} (h : x.wf) : x.real.wf := by
  cases x with
  | pl x => exact pl_real_wf h
  | add p rs a b => exact ⟨(form_can h.1).wf, h.2⟩
  | since n xs =>
    refine ⟨h.1, fun z => h.2.1 (List.map_eq_nil_iff.mp z), fun y hy => ?_⟩
    obtain ⟨x, hx, rfl⟩ := List.mem_map.mp hy
    exact pl_real_wf (h.2.2 x hx)
theorem reals_wf {xs : List Stp} (h : ∀ x ∈ xs, x.wf) : ∀ y ∈ reals xs, y.wf := fun y hy => by
  obtain ⟨x, hx, rfl⟩ := List.mem_map.mp hy
  exact stp_real_wf (h x hx)
/-- a script's round is a multiple of each of its rounds -/
theorem lcmL_ok : ∀ (ps : List Int) (i : Int), 1 ≤ i → (∀ p ∈ ps, 1 ≤ p) → 1 ≤ lcmL ps i ∧ i ∣ lcmL ps i ∧ ∀ p ∈ ps, p ∣ lcmL ps i
  | [], i, hi, _ => ⟨hi, Int.dvd_refl i, by simp⟩
  | q :: ps, i, hi, h => by
    have hq := h q List.mem_cons_self
    obtain ⟨a, b, c⟩ := lcmL_ok ps (lcmI i q) (lcmI_pos hi hq) fun p hp => h p (List.mem_cons_of_mem _ hp)
    refine ⟨a, Int.dvd_trans (lcmI_dvd_left hi hq) b, fun p hp => ?_⟩
    rcases List.mem_cons.mp hp with rfl | hp
    · exact Int.dvd_trans (lcmI_dvd_right hi hq) b
    · exact c p hp
theorem lcmL_dvd : ∀ (ps : List Int) (i B : Int), 1 ≤ B → 1 ≤ i → (∀ p ∈ ps, 1 ≤ p) → i ∣ B → (∀ p ∈ ps, p ∣ B) → lcmL ps i ∣ B
  | [], i, B, _, _, _, h, _ => h
  | q :: ps, i, B, hB, hi, h1, h, h2 => by
    have hq := h1 q List.mem_cons_self
    exact lcmL_dvd ps (lcmI i q) B hB (lcmI_pos hi hq) (fun p hp => h1 p (List.mem_cons_of_mem _ hp)) (lcmI_least hi hq hB h (h2 q List.mem_cons_self)) fun p hp => h2 p (List.mem_cons_of_mem _ hp)
theorem rounds_pos {xs : List Stp} (h : ∀ x ∈ xs, x.wf) : ∀ p ∈ rounds xs, 1 ≤ p := fun p hp => by
  obtain ⟨z, hz, e⟩ := List.mem_filterMap.mp hp
  have hw := flat_wf h z hz
  cases z with
  | pl x => cases x with
    | keep p' rs => cases e; exact Wf.pos hw
    | strike p' rs => cases e; exact Wf.pos hw
    | _ => cases e
  | add p' rs a b => cases e; exact Wf.pos hw.1
  | since n ys => cases e
theorem round_pos {xs : List Stp} (h : ∀ x ∈ xs, x.wf) : 1 ≤ roundS xs := (lcmL_ok _ 1 (by decide) (rounds_pos h)).1
theorem round_divs {xs : List Stp} (h : ∀ x ∈ xs, x.wf) : divs (roundS xs) xs := fun p hp => ⟨rounds_pos h p hp, (lcmL_ok _ 1 (by decide) (rounds_pos h)).2.2 p hp⟩
end DL
set_option Elab.async false
set_option linter.all false
set_option maxRecDepth 100000
set_option maxHeartbeats 400000
set_option autoImplicit false
/-! what stands behind a script, as the program reckons it (plain) -/
namespace DL
open PySem PySem.Spec PyProof.Rows L2 Rh
/-- an offer: the step, its day, its day at the end or none -/
abbrev Itm := Nat × Int × Option Int
def Itm.D (x : Itm) : D := .tup [.int (x.1 : Int), .int x.2.1, optD x.2.2]
def addDays (p : Int) (rs : List Int) (a : Int) (b : Option Int) (w : Int) : List Int := (rngI a ((match b with
  | none => w
  | some b => if b < w then b else w) + 1)).filter fun d => decide (d % p ∈ rs)
def newStep (w : Int) (k : Nat) (x : Stp) (f : List Itm) : List Itm := match x with
  | .add p rs a b => f ++ ((addDays p rs a b w).filter fun d => !(decide (d ∈ f.filterMap (·.2.2)))).map fun d => (k, d, some d)
  | x => f.map fun y => (y.1, y.2.1, y.2.2.bind x.go)
def newGo (w : Int) : Nat → List Stp → List Itm → List Itm
  | _, [], f => f
  | k, x :: xs, f => newGo w (k + 1) xs (newStep w k x f)
def Stp.ad : Stp → Bool
  | .add _ _ _ _ => true
  | _ => false
/-- a stand: its day, the date that stands there or none -/
abbrev Sd := Int × Option Int
def Sd.D (x : Sd) : D := .tup [.int x.1, optD x.2]
end DL
set_option Elab.async false
set_option linter.all false
set_option maxRecDepth 100000
set_option maxHeartbeats 4000000
set_option autoImplicit false
/-! more of fixed data -/
namespace DL
open PySem PySem.Spec PyProof.Rows L2 Rh
section
variable {S : Type} {env : Env} {cs : List Str} {s : S}
theorem tupD_of {α : Env → M S (List D)} {ds : List D} {s1 : S} (h : α env s = .ok ds s1) (hl : ds.length ≤ 100) : tupD α env s = .ok (.tup ds) s1 := by
  rw [tupD_run, h, Res.bind_ok, if_pos (by rw [sizeLine_eq]; omega)]
theorem call1_of {τ : Env → M S D} {f : List D → M S D} {x z : D} {s1 s2 : S} (h : τ env s = .ok x s1) (k : f [x] s1 = .ok z s2) : bcl f (aCons τ aNil) env s = .ok z s2 := by
  rw [bcl_run, aCons_run, h]; exact k
theorem ret_of {τ : Env → M S D} {d : D} {s1 : S} (h : τ env s = .ok d s1) : sRet τ env s = .ok (.rt d) s1 := by rw [sRet_run, h]; rfl
theorem iR2_of {α : Env → M S (List D)} {i j : Int} {s1 : S} (h : α env s = .ok [.int i, .int j] s1) (hb : -(2 ^ 62) ≤ i ∧ i < 2 ^ 62 ∧ -(2 ^ 62) ≤ j ∧ j < 2 ^ 62) : iR2 α env s = .ok (rngD i j) s1 := by
  rw [iR2_run, h, Res.bind_ok, a2_run, onInt_run, onInt_run, grd_run, if_pos hb]; rfl
end
end DL
set_option Elab.async false
set_option linter.all false
set_option maxRecDepth 100000
set_option maxHeartbeats 4000000
set_option autoImplicit false
/-! what fates.py reckons of a script: span, border, far, offsets, the least table -/
namespace DL
open PySem PySem.Spec PyProof.Rows L2 Rh
section
variable {S : Type} {s : S} {cs : List Str} {env : Env}
/-! ### more readings -/
theorem Det.add_lst {τ υ : Env → M S D} {a b : List D} (h : Det τ env (.lst a)) (h' : Det υ env (.lst b)) (hl : a.length + b.length ≤ 100000) : Det (DL.bin addD τ υ) env (.lst (a ++ b)) := Det.bin h h' fun s => by
  rw [addD_lst, if_pos (by rw [sizeLine_eq]; omega)]
/-! ### the parts of a script -/
end
end DL
set_option Elab.async false
set_option linter.all false
set_option maxRecDepth 100000
set_option maxHeartbeats 4000000
set_option autoImplicit false
/-! the least table, by the program -/
namespace DL
open PySem PySem.Spec PyProof.Rows L2 Rh
end DL
set_option Elab.async false
set_option linter.all false
set_option maxRecDepth 100000
set_option maxHeartbeats 4000000
set_option autoImplicit false
/-! steps of a run, one by one -/
namespace DL
open PySem PySem.Spec PyProof.Rows L2 Rh
section
variable {S : Type} {env e : Env} {s s1 s2 : S} {t : Env → M S Bool} {a b : Env → M S Flw} {τ υ : Env → M S D} {r : Res S Flw} {d : D}
theorem seq_skip (h : t env s = .ok false s1) (k : b env s1 = r) : sSeq (sIf t a sNx) b env s = r := by rw [sSeq_run, sIf_run, h]; exact k
theorem if_t (h : t env s = .ok true s1) (k : a env s1 = r) : sIf t a b env s = r := by rw [sIf_run, h, Res.bind_ok, if_pos rfl, k]
theorem if_f (h : t env s = .ok false s1) (k : b env s1 = r) : sIf t a b env s = r := by rw [sIf_run, h, Res.bind_ok, if_neg (by simp), k]
theorem asg_of {i : Nat} (h : τ env s = .ok d s1) : sAsg τ (gNm i) env s = .ok (.nx (env.set i (some (.val d)))) s1 := by rw [sAsg_run, h]; rfl
theorem seq_asg {i : Nat} (h : τ env s = .ok d s1) (k : b (env.set i (some (.val d))) s1 = r) : sSeq (sAsg τ (gNm i)) b env s = r := seq_of (asg_of h) k
theorem for_of {ι : Env → M S (List D)} {γ : D → Env → M S Env} {ds : List D} (h : ι env s = .ok ds s1) (k : forL γ a ds env s1 = r) : sFor ι γ a env s = r := by rw [sFor_run, h]; exact k
theorem forL_cons {i : Nat} {x : D} {xs : List D} (h : a (env.set i (some (.val x))) s = .ok (.nx e) s1) (k : forL (gNm i) a xs e s1 = r) : forL (gNm i) a (x :: xs) env s = r := (forL_nx h).trans k
theorem or_f {u : Env → M S Bool} {q : Res S Bool} (h : t env s = .ok false s1) (k : u env s1 = q) : orT t u env s = q := by rw [orT_run, h, Res.bind_ok, if_neg (by simp), k]
theorem and_t {u : Env → M S Bool} {q : Res S Bool} (h : t env s = .ok true s1) (k : u env s1 = q) : andT t u env s = q := by rw [andT_run, h, Res.bind_ok, if_pos rfl, k]
theorem and_f {u : Env → M S Bool} (h : t env s = .ok false s1) : andT t u env s = .ok false s1 := by rw [andT_run, h]; rfl
theorem not_of {b : Bool} (h : t env s = .ok b s1) : notT t env s = .ok (!b) s1 := by rw [notT_run, h]; rfl
theorem asT_of {b : Bool} (h : τ env s = .ok (.bl b) s1) : asT τ env s = .ok b s1 := by rw [asT_run, h]; rfl
theorem bin_of {f : D → D → M S D} {x y : D} {q : Res S D} (h : τ env s = .ok x s1) (h' : υ env s1 = .ok y s2) (k : f x y s2 = q) : bin f τ υ env s = q := by rw [bin_run, h, Res.bind_ok, h', Res.bind_ok, k]
theorem isi_of1 {tb : Str → Option Bool} {x : D} {q : Res S D} (h : τ env s = .ok x s1) (k : isiD tb x s1 = q) : isi tb τ env s = q := by rw [isi_run, h, Res.bind_ok, k]
theorem cmp_of {own : List Nat} {ι : Env → M S (List D)} {γ : D → Env → M S Env} {xs ys : List D} (h : ι env s = .ok xs s1) (hl : xs.length ≤ sizeLine) (k : cmpL γ t τ (wipeE env own) xs s1 = .ok ys s2) : cmp own ι γ t τ env s = .ok (.lst ys) s2 := by
  rw [cmp_run, h, Res.bind_ok, if_pos hl, calm_of k]; rfl
/-- two things at once, drawn -/
theorem Yes.par {i j : Nat} {P Q : D → Prop} (h : Yes (τ env) P) (k : Yes (υ env) Q) : Yes (sPar i j (DL.aCons τ (DL.aCons υ DL.aNil)) env) fun f => ∃ e, f = .nx e ∧ ∃ x y, P x ∧ Q y ∧ e = (env.set i (some (.val x))).set j (some (.val y)) := fun s => by
  obtain ⟨x, s1, e1, p⟩ := h s
  obtain ⟨y, s2, e2, q⟩ := k s1
  exact ⟨_, s2, sPar_run (by rw [aCons_run, e1, Res.bind_ok, aCons_run, e2]; rfl), _, rfl, x, y, p, q, rfl⟩
end
abbrev va (d : D) : Option Slot := some (.val d)
end DL
set_option Elab.async false
set_option linter.all false
set_option maxRecDepth 100000
set_option maxHeartbeats 400000
set_option autoImplicit false
/-! fates.py, stands.py: the readings reckon what StMath says -/
namespace DL
open PySem PySem.Spec PyProof.Rows L2 Rh
section
variable {S : Type} {s : S} {cs : List Str} {env : Env}
theorem sz6 {n : Nat} (h : n ≤ 1000000) : n ≤ sizeLine := by rw [sizeLine_eq]; omega
/-! ### days_of -/
end
end DL
set_option Elab.async false
set_option linter.all false
set_option maxRecDepth 100000
set_option maxHeartbeats 400000
set_option autoImplicit false
/-! new_ones -/
namespace DL
open PySem PySem.Spec PyProof.Rows L2 Rh
section
variable {S : Type} {s : S} {cs : List Str} {env : Env}
theorem len_flat (ys : List Stp) : ys.length ≤ (flatS ys).length := by
  unfold flatS
  induction ys with
  | nil => simp
  | cons x ys ih =>
    rw [List.flatMap_cons, List.length_append, List.length_cons]
    have : 1 ≤ x.flat.length := by cases x <;> simp [Stp.flat]
    omega
end
end DL
set_option Elab.async false
set_option linter.all false
set_option maxRecDepth 100000
set_option maxHeartbeats 400000
set_option autoImplicit false
/-! near_offers, block_of -/
namespace DL
open PySem PySem.Spec PyProof.Rows L2 Rh
/-- what is asked of a script's model here -/
structure Scr (ys : List Stp) : Prop where
  few : (flatS ys).length ≤ 12
  wf : ∀ x ∈ ys, x.wf
  rnd : roundS ys ≤ 84
  spn : spanS ys ≤ 1200
end DL
set_option Elab.async false
set_option linter.all false
set_option maxRecDepth 100000
set_option maxHeartbeats 400000
set_option autoImplicit false
/-! block_of, in_order -/
namespace DL
open PySem PySem.Spec PyProof.Rows L2 Rh
end DL
set_option Elab.async false
set_option linter.all false
set_option maxRecDepth 100000
set_option maxHeartbeats 400000
set_option autoImplicit false
/-! stands_behind and what stands on it -/
namespace DL
open PySem PySem.Spec PyProof.Rows L2 Rh
end DL
set_option Elab.async false
set_option linter.all false
set_option maxRecDepth 100000
set_option maxHeartbeats 400000
set_option autoImplicit false
/-! how far dates are carried (plain) -/
namespace DL
open PySem PySem.Spec PyProof.Rows L2 Rh
/-! ### plain: how far dates are carried -/
theorem pl_dist {x : Pl} {d e : Int} (h : x.go d = some e) : absI (e - d) ≤ x.sp := by
  have z : ∀ {p : Prop} [Decidable p], (if p then some d else none) = some e → absI (e - d) ≤ 0 := fun h => by
    split at h
    · cases h; simp [absI]
    · cases h
  cases x with
  | shift n =>
    have h : some (d + n) = some e := h
    cases h
    show absI (d + n - d) ≤ absI n
    rw [show d + n - d = n by omega]; exact Int.le_refl _
  | frm n => exact z h
  | unt n => exact z h
  | keep p rs => exact z h
  | strike p rs =>
    have h : (if d % p ∈ rs then none else some d) = some e := h
    split at h
    · cases h
    · cases h; simp [absI, Pl.sp]
theorem absI_tri (a b c : Int) : absI (c - a) ≤ absI (b - a) + absI (c - b) := by unfold absI; split <;> split <;> split <;> omega
theorem gos_dist {T : Type} {g : T → Int → Option Int} {sp : T → Int} (h : ∀ x d e, g x d = some e → absI (e - d) ≤ sp x) : ∀ (xs : List T) (d e : Int), gos g xs (some d) = some e → absI (e - d) ≤ sumL (xs.map sp)
  | [], d, e, q => by
    have q : some d = some e := q
    cases q
    simp [absI, sumL]
  | x :: xs, d, e, q => by
    rw [gos_cons] at q
    rw [List.map_cons, sumL_cons]
    cases hg : g x d with
    | none => rw [show (some d).bind (g x) = g x d from rfl, hg, gos_none] at q; cases q
    | some m =>
      rw [show (some d).bind (g x) = g x d from rfl, hg] at q
      have := h x d m hg
      have := gos_dist h xs m e q
      have := absI_tri d m e
      omega
theorem stp_dist (x : Stp) (d e : Int) (h : x.go d = some e) : absI (e - d) ≤ x.all := by
  cases x with
  | pl x => exact pl_dist h
  | add p rs a b =>
    have h : some d = some e := h
    cases h
    simp [absI, Stp.all]
  | since n xs =>
    have h : (if n ≤ d then goPs xs (some d) else some d) = some e := h
    split at h
    · exact gos_dist (sp := Pl.sp) (fun x d e => pl_dist) xs d e h
    · cases h
      show absI (d - d) ≤ sumL (xs.map Pl.sp)
      have := sumP_nn xs
      rw [show d - d = 0 by omega]
      exact this
/-! ### tables -/
end DL
set_option Elab.async false
set_option linter.all false
set_option maxRecDepth 100000
set_option maxHeartbeats 400000
set_option autoImplicit false
/-! stands are on days that are not far (plain) -/
namespace DL
open PySem PySem.Spec PyProof.Rows L2 Rh
theorem addDays_mem {p : Int} {rs : List Int} {a : Int} {b : Option Int} {w d : Int} (h : d ∈ addDays p rs a b w) : a ≤ d ∧ d ≤ w ∧ (∀ c, b = some c → d ≤ c) ∧ d % p ∈ rs := by
  unfold addDays at h
  obtain ⟨h1, h2⟩ := List.mem_filter.mp h
  unfold rngI at h1
  obtain ⟨i, hi, rfl⟩ := List.mem_map.mp h1
  rw [List.mem_range] at hi
  refine ⟨by omega, ?_, ?_, of_decide_eq_true h2⟩
  · cases b with
    | none => simp only at hi; omega
    | some b => simp only at hi; split at hi <;> omega
  · rintro c rfl
    simp only at hi
    split at hi <;> omega
end DL
set_option Elab.async false
set_option linter.all false
set_option maxRecDepth 100000
set_option maxHeartbeats 4000000
set_option autoImplicit false
/-! plain facts behind the laws' own helpers -/
namespace DL
open PySem PySem.Spec PyProof.Rows L2 Rh
/-! ### plain facts -/
end DL
set_option Elab.async false
set_option linter.all false
set_option maxRecDepth 100000
set_option maxHeartbeats 4000000
set_option autoImplicit false
/-! what repr is told of -/
namespace DL
open PySem PySem.Spec PyProof.Rows L2 Rh
theorem strOk_of (x : String) : PyData.strOk (Str.ofString x) = true := by
  unfold PyData.strOk
  rw [Str.ofString_eq_toList, List.all_toArray, List.all_eq_true]
  intro c hc
  obtain ⟨ch, _, rfl⟩ := List.mem_map.mp hc
  have := ch.valid
  simp only [UInt32.isValidChar, Nat.isValidChar] at this
  have e : ch.toNat = ch.val.toNat := rfl
  simp only [decide_eq_true_eq]
  omega
theorem strOk_app {a b : Str} (ha : PyData.strOk a = true) (hb : PyData.strOk b = true) : PyData.strOk (a ++ b) = true := by
  unfold PyData.strOk at *
  show (a.cps ++ b.cps).all _ = true
  rw [Array.all_append, ha, hb]; rfl
theorem strOk_from : ∀ (ts : List Str) (k : Nat) (acc : Str), PyData.strOk acc = true → (∀ t ∈ ts, PyData.strOk t = true) → PyData.strOk (textFrom k acc ts) = true
  | [], _, _, h, _ => h
  | t :: ts, k, acc, h, ht => strOk_from ts (k + 1) _ (strOk_app (strOk_app h (strOk_of _)) (ht t List.mem_cons_self)) fun u hu => ht u (List.mem_cons_of_mem _ hu)
theorem strOk_list {ts : List Str} (ht : ∀ t ∈ ts, PyData.strOk t = true) : PyData.strOk (listText ts) = true := strOk_app (strOk_from ts 0 _ (strOk_of _) ht) (strOk_of _)
theorem int_small {a : Int} (h : a.natAbs < 10 ^ 12) : a.natAbs.log2 < 1920 := by
  by_cases h0 : a.natAbs = 0
  · rw [h0]; decide
  · exact (Nat.log2_lt h0).mpr (Nat.lt_trans h (by decide))
theorem DetT.same {env : Env} {τ υ : Env → M DrS D} {x : D} (hx : Shw x) (h : Det τ env x) (h' : Det υ env x) : DetT (asT (bin (eqD true) (bcl reprD (aCons τ aNil)) (bcl reprD (aCons υ aNil)))) env false := fun s => by
  obtain ⟨z, hz⟩ := hx
  exact neq_of (h s) (h' s) (hz s).1 (hz s).2
end DL
set_option Elab.async false
set_option linter.all false
set_option maxRecDepth 100000
set_option maxHeartbeats 4000000
set_option autoImplicit false
/-! plain data: what == and repr are told of -/
namespace DL
open PySem PySem.Spec PyProof.Rows L2 Rh
def Pln (d : D) (dep wt : Nat) : Prop := ∃ a, pd d = some a ∧ a.canLay0 = true ∧ a.intsShort 13 = true ∧ a.showable = true ∧ PyData.strOk a.shown = true ∧ a.depth ≤ dep ∧ a.weight ≤ wt
def PlnL (ds : List D) (dep wt : Nat) : Prop := ∃ as, pdL ds = some as ∧ PyData.canLayAll0 as = true ∧ PyData.intsShortAll 13 as = true ∧ PyData.showableAll as = true ∧ (∀ t ∈ PyData.shownAll as, PyData.strOk t = true) ∧ PyData.depthAll as ≤ dep ∧ PyData.weightAll as ≤ wt
theorem Pln.mono {d : D} {a b a' b' : Nat} (h : Pln d a b) (ha : a ≤ a') (hb : b ≤ b') : Pln d a' b' := by
  obtain ⟨x, h1, h2, h3, h4, h5, h6, h7⟩ := h
  exact ⟨x, h1, h2, h3, h4, h5, by omega, by omega⟩
theorem PlnL.mono {ds : List D} {a b a' b' : Nat} (h : PlnL ds a b) (ha : a ≤ a') (hb : b ≤ b') : PlnL ds a' b' := by
  obtain ⟨x, h1, h2, h3, h4, h5, h6, h7⟩ := h
  exact ⟨x, h1, h2, h3, h4, h5, by omega, by omega⟩
theorem Pln.non : Pln .non 0 0 := ⟨.none, rfl, rfl, rfl, rfl, strOk_of "None", Nat.le_refl _, Nat.le_refl _⟩
theorem Pln.bl {b : Bool} : Pln (.bl b) 0 0 := ⟨.bool b, rfl, rfl, rfl, rfl, by cases b; exact strOk_of "False"; exact strOk_of "True", Nat.le_refl _, Nat.le_refl _⟩
theorem log_small {i : Int} (h : i.natAbs < 10 ^ 12) : (PyData.int i).weight ≤ 40 := by
  show (if i == 0 then 0 else i.natAbs.log2 + 1) ≤ 40
  split
  · omega
  · rename_i c
    have h0 : i.natAbs ≠ 0 := fun z => c (by simp; omega)
    have : i.natAbs.log2 < 40 := (Nat.log2_lt h0).mpr (Nat.lt_trans h (by decide))
    omega
theorem Pln.int {i : Int} (h : i.natAbs < 10 ^ 12) : Pln (.int i) 0 40 := ⟨.int i, rfl, rfl, by
  show decide _ = true
  exact decide_eq_true (PyData.shown_int_le h), by
  show decide _ = true
  exact decide_eq_true (int_small h), strOk_of _, Nat.le_refl _, log_small h⟩
theorem Pln.str {x : Str} (h : PyData.strOk x = true) (h' : PyData.strOk (reprText x) = true) : Pln (.str x) 0 x.cps.size := ⟨.str x, rfl, h, rfl, rfl, h', Nat.le_refl _, Nat.le_refl _⟩
theorem Pln.opt {o : Option Int} (h : ∀ v, o = some v → v.natAbs < 10 ^ 12) : Pln (optD o) 0 40 := by
  cases o with
  | none => exact Pln.non.mono (Nat.le_refl _) (by decide)
  | some v => exact Pln.int (h v rfl)
theorem PlnL.nil {dep : Nat} : PlnL [] dep 0 := ⟨[], rfl, rfl, rfl, rfl, by simp [PyData.shownAll], Nat.zero_le _, Nat.le_refl _⟩
theorem PlnL.cons {d : D} {ds : List D} {a w w' : Nat} (h : Pln d a w) (k : PlnL ds a w') : PlnL (d :: ds) a (w + 1 + w') := by
  obtain ⟨x, h1, h2, h3, h4, h5, h6, h7⟩ := h
  obtain ⟨xs, k1, k2, k3, k4, k5, k6, k7⟩ := k
  refine ⟨x :: xs, by simp only [pdL, h1, k1], by simp only [PyData.canLayAll0, h2, k2, Bool.and_self], by simp only [PyData.intsShortAll, h3, k3, Bool.and_self], by simp only [PyData.showableAll, h4, k4, Bool.and_self], ?_, ?_, ?_⟩
  · intro t ht
    rcases List.mem_cons.mp (show t ∈ x.shown :: PyData.shownAll xs from ht) with rfl | ht
    · exact h5
    · exact k5 t ht
  · show max x.depth (PyData.depthAll xs) ≤ a
    omega
  · show x.weight + 1 + PyData.weightAll xs ≤ _
    omega
theorem PlnL.map {T : Type} {f : T → D} {a w : Nat} : ∀ {xs : List T}, (∀ x ∈ xs, Pln (f x) a w) → PlnL (xs.map f) a ((w + 1) * xs.length)
  | [], _ => PlnL.nil
  | x :: xs, h => by
    have ih := PlnL.map (xs := xs) fun y hy => h y (List.mem_cons_of_mem _ hy)
    have := PlnL.cons (h x List.mem_cons_self) ih
    rw [List.length_cons, Nat.mul_succ]
    exact this.mono (Nat.le_refl _) (by omega)
theorem PlnL.all {a w : Nat} {ds : List D} (h : ∀ d ∈ ds, Pln d a w) : PlnL ds a ((w + 1) * ds.length) := by
  have := PlnL.map (f := id) (xs := ds) h
  rw [List.map_id] at this
  exact this
theorem PlnL.append {ds es : List D} {a w w' : Nat} (h : PlnL ds a w) (k : PlnL es a w') : PlnL (ds ++ es) a (w + w') := by
  obtain ⟨xs, h1, h2, h3, h4, h5, h6, h7⟩ := h
  induction ds generalizing xs w with
  | nil => cases h1; exact k.mono (Nat.le_refl _) (by omega)
  | cons d ds ih =>
    unfold pdL at h1
    cases hd : pd d with
    | none => rw [hd] at h1; cases h1
    | some x =>
      cases hs : pdL ds with
      | none => rw [hd, hs] at h1; cases h1
      | some ys =>
        rw [hd, hs] at h1
        cases h1
        simp only [PyData.canLayAll0, PyData.intsShortAll, PyData.showableAll, Bool.and_eq_true] at h2 h3 h4
        have h6 : max x.depth (PyData.depthAll ys) ≤ a := h6
        have h7 : x.weight + 1 + PyData.weightAll ys ≤ w := h7
        have := PlnL.cons (d := d) (a := a) (w := x.weight) ⟨x, hd, h2.1, h3.1, h4.1, h5 _ List.mem_cons_self, by omega, Nat.le_refl _⟩ (ih (w := PyData.weightAll ys) ys hs h2.2 h3.2 h4.2 (fun t ht => h5 t (List.mem_cons_of_mem _ ht)) (by omega) (Nat.le_refl _))
        exact this.mono (Nat.le_refl _) (by omega)
theorem strOk_join : ∀ {ts : List Str}, (∀ t ∈ ts, PyData.strOk t = true) → PyData.strOk (Str.join ", " ts) = true
  | [], _ => strOk_of ""
  | [x], h => h x List.mem_cons_self
  | x :: y :: r, h => by
    show PyData.strOk (x ++ ", " ++ Str.join ", " (y :: r)) = true
    exact strOk_app (strOk_app (h x List.mem_cons_self) (strOk_of _)) (strOk_join fun t ht => h t (List.mem_cons_of_mem _ ht))
theorem strOk_tup {ts : List Str} (h : ∀ t ∈ ts, PyData.strOk t = true) : PyData.strOk (tupleText ts) = true := strOk_app (strOk_app (strOk_of _) (strOk_join h)) (strOk_of _)
theorem Pln.lst {ds : List D} {a w : Nat} (h : PlnL ds a w) : Pln (.lst ds) (a + 1) w := by
  obtain ⟨xs, h1, h2, h3, h4, h5, h6, h7⟩ := h
  refine ⟨.list xs, ?_, h2, h3, h4, strOk_list h5, ?_, h7⟩
  · show (pdL ds).map PyData.list = _
    rw [h1]; rfl
  · show PyData.depthAll xs + 1 ≤ a + 1
    omega
theorem Pln.tup {ds : List D} {a w : Nat} (h : PlnL ds a w) : Pln (.tup ds) (a + 1) w := by
  obtain ⟨xs, h1, h2, h3, h4, h5, h6, h7⟩ := h
  refine ⟨.tuple xs, ?_, h2, h3, h4, strOk_tup h5, ?_, h7⟩
  · show (pdL ds).map PyData.tuple = _
    rw [h1]; rfl
  · show PyData.depthAll xs + 1 ≤ a + 1
    omega
section
variable {S : Type} {s : S} {env : Env}
theorem Pln.eq {d : D} {a w : Nat} (h : Pln d a w) (ha : a ≤ 64) {neg : Bool} : (eqD neg d d : M S D) s = .ok (.bl (!neg)) s := by
  obtain ⟨x, h1, h2, h3, h4, h5, h6, h7⟩ := h
  have hs : SeqAt.shaped x = true := by
    unfold SeqAt.shaped
    rw [h2, decide_eq_true (by omega)]; rfl
  have e : eqP d d = some true := by
    unfold eqP
    rw [h1]
    show (if _ then some _ else none) = _
    rw [if_pos ⟨hs, hs⟩, SeqAt.eqv_refl x h2]
  unfold eqD; rw [e]; cases neg <;> rfl
theorem DetT.neSelf {τ υ : Env → M S D} {x : D} {a w : Nat} (hx : Pln x a w) (ha : a ≤ 64) (h : Det τ env x) (h' : Det υ env x) : DetT (asT (bin (eqD true) τ υ)) env false := DetT.as (Det.bin h h' fun s => hx.eq ha)
end
end DL
set_option Elab.async false
set_option linter.all false
set_option maxRecDepth 100000
set_option maxHeartbeats 400000
set_option autoImplicit false
/-! all_stands, shown_days, is_ended, last_stand, blocked_by -/
namespace DL
open PySem PySem.Spec PyProof.Rows L2 Rh
end DL
set_option Elab.async false
set_option linter.all false
set_option maxRecDepth 100000
set_option maxHeartbeats 4000000
set_option autoImplicit false
/-! plain data: what == and repr are told of -/
namespace DL
open PySem PySem.Spec PyProof.Rows L2 Rh
def PlB (d : D) (dep wt : Nat) : Prop := ∃ a, pd d = some a ∧ a.canLay0 = true ∧ a.intsShort 40 = true ∧ a.showable = true ∧ PyData.strOk a.shown = true ∧ a.depth ≤ dep ∧ a.weight ≤ wt
def PlBL (ds : List D) (dep wt : Nat) : Prop := ∃ as, pdL ds = some as ∧ PyData.canLayAll0 as = true ∧ PyData.intsShortAll 40 as = true ∧ PyData.showableAll as = true ∧ (∀ t ∈ PyData.shownAll as, PyData.strOk t = true) ∧ PyData.depthAll as ≤ dep ∧ PyData.weightAll as ≤ wt
theorem PlB.mono {d : D} {a b a' b' : Nat} (h : PlB d a b) (ha : a ≤ a') (hb : b ≤ b') : PlB d a' b' := by
  obtain ⟨x, h1, h2, h3, h4, h5, h6, h7⟩ := h
  exact ⟨x, h1, h2, h3, h4, h5, by omega, by omega⟩
theorem PlBL.mono {ds : List D} {a b a' b' : Nat} (h : PlBL ds a b) (ha : a ≤ a') (hb : b ≤ b') : PlBL ds a' b' := by
  obtain ⟨x, h1, h2, h3, h4, h5, h6, h7⟩ := h
  exact ⟨x, h1, h2, h3, h4, h5, by omega, by omega⟩
theorem PlB.non : PlB .non 0 0 := ⟨.none, rfl, rfl, rfl, rfl, strOk_of "None", Nat.le_refl _, Nat.le_refl _⟩
theorem PlB.bl {b : Bool} : PlB (.bl b) 0 0 := ⟨.bool b, rfl, rfl, rfl, rfl, by cases b; exact strOk_of "False"; exact strOk_of "True", Nat.le_refl _, Nat.le_refl _⟩
theorem log_smallB {i : Int} (h : i.natAbs < 10 ^ 38) : (PyData.int i).weight ≤ 128 := by
  show (if i == 0 then 0 else i.natAbs.log2 + 1) ≤ 128
  split
  · omega
  · rename_i c
    have h0 : i.natAbs ≠ 0 := fun z => c (by simp; omega)
    have : i.natAbs.log2 < 127 := (Nat.log2_lt h0).mpr (Nat.lt_trans h (by decide))
    omega
theorem int_smallB {a : Int} (h : a.natAbs < 10 ^ 38) : a.natAbs.log2 < 1920 := by
  by_cases h0 : a.natAbs = 0
  · rw [h0]; decide
  · exact (Nat.log2_lt h0).mpr (Nat.lt_trans h (by decide))
theorem PlB.int {i : Int} (h : i.natAbs < 10 ^ 38) : PlB (.int i) 0 128 := ⟨.int i, rfl, rfl, by
  show decide ((PyData.shown (.int i)).length ≤ 40) = true
  refine decide_eq_true ?_
  have e := int_text_length_le10 (k := 38) (by decide) h
  show (Str.ofString (toString i)).length ≤ 40
  rw [PySem.ofString_length]; omega, by
  show decide _ = true
  exact decide_eq_true (int_smallB h), strOk_of _, Nat.le_refl _, log_smallB h⟩
theorem PlB.str {x : Str} (h : PyData.strOk x = true) (h' : PyData.strOk (reprText x) = true) : PlB (.str x) 0 x.cps.size := ⟨.str x, rfl, h, rfl, rfl, h', Nat.le_refl _, Nat.le_refl _⟩
theorem PlBL.nil {dep : Nat} : PlBL [] dep 0 := ⟨[], rfl, rfl, rfl, rfl, by simp [PyData.shownAll], Nat.zero_le _, Nat.le_refl _⟩
theorem PlBL.cons {d : D} {ds : List D} {a w w' : Nat} (h : PlB d a w) (k : PlBL ds a w') : PlBL (d :: ds) a (w + 1 + w') := by
  obtain ⟨x, h1, h2, h3, h4, h5, h6, h7⟩ := h
  obtain ⟨xs, k1, k2, k3, k4, k5, k6, k7⟩ := k
  refine ⟨x :: xs, by simp only [pdL, h1, k1], by simp only [PyData.canLayAll0, h2, k2, Bool.and_self], by simp only [PyData.intsShortAll, h3, k3, Bool.and_self], by simp only [PyData.showableAll, h4, k4, Bool.and_self], ?_, ?_, ?_⟩
  · intro t ht
    rcases List.mem_cons.mp (show t ∈ x.shown :: PyData.shownAll xs from ht) with rfl | ht
    · exact h5
    · exact k5 t ht
  · show max x.depth (PyData.depthAll xs) ≤ a
    omega
  · show x.weight + 1 + PyData.weightAll xs ≤ _
    omega
theorem PlBL.map {T : Type} {f : T → D} {a w : Nat} : ∀ {xs : List T}, (∀ x ∈ xs, PlB (f x) a w) → PlBL (xs.map f) a ((w + 1) * xs.length)
  | [], _ => PlBL.nil
  | x :: xs, h => by
    have ih := PlBL.map (xs := xs) fun y hy => h y (List.mem_cons_of_mem _ hy)
    have := PlBL.cons (h x List.mem_cons_self) ih
    rw [List.length_cons, Nat.mul_succ]
    exact this.mono (Nat.le_refl _) (by omega)
theorem PlBL.all {a w : Nat} {ds : List D} (h : ∀ d ∈ ds, PlB d a w) : PlBL ds a ((w + 1) * ds.length) := by
  have := PlBL.map (f := id) (xs := ds) h
  rw [List.map_id] at this
  exact this
theorem PlBL.append {ds es : List D} {a w w' : Nat} (h : PlBL ds a w) (k : PlBL es a w') : PlBL (ds ++ es) a (w + w') := by
  obtain ⟨xs, h1, h2, h3, h4, h5, h6, h7⟩ := h
  induction ds generalizing xs w with
  | nil => cases h1; exact k.mono (Nat.le_refl _) (by omega)
  | cons d ds ih =>
    unfold pdL at h1
    cases hd : pd d with
    | none => rw [hd] at h1; cases h1
    | some x =>
      cases hs : pdL ds with
      | none => rw [hd, hs] at h1; cases h1
      | some ys =>
        rw [hd, hs] at h1
        cases h1
        simp only [PyData.canLayAll0, PyData.intsShortAll, PyData.showableAll, Bool.and_eq_true] at h2 h3 h4
        have h6 : max x.depth (PyData.depthAll ys) ≤ a := h6
        have h7 : x.weight + 1 + PyData.weightAll ys ≤ w := h7
        have := PlBL.cons (d := d) (a := a) (w := x.weight) ⟨x, hd, h2.1, h3.1, h4.1, h5 _ List.mem_cons_self, by omega, Nat.le_refl _⟩ (ih (w := PyData.weightAll ys) ys hs h2.2 h3.2 h4.2 (fun t ht => h5 t (List.mem_cons_of_mem _ ht)) (by omega) (Nat.le_refl _))
        exact this.mono (Nat.le_refl _) (by omega)
theorem strOk_joinB : ∀ {ts : List Str}, (∀ t ∈ ts, PyData.strOk t = true) → PyData.strOk (Str.join ", " ts) = true
  | [], _ => strOk_of ""
  | [x], h => h x List.mem_cons_self
  | x :: y :: r, h => by
    show PyData.strOk (x ++ ", " ++ Str.join ", " (y :: r)) = true
    exact strOk_app (strOk_app (h x List.mem_cons_self) (strOk_of _)) (strOk_joinB fun t ht => h t (List.mem_cons_of_mem _ ht))
theorem strOk_tupB {ts : List Str} (h : ∀ t ∈ ts, PyData.strOk t = true) : PyData.strOk (tupleText ts) = true := strOk_app (strOk_app (strOk_of _) (strOk_joinB h)) (strOk_of _)
theorem PlB.lst {ds : List D} {a w : Nat} (h : PlBL ds a w) : PlB (.lst ds) (a + 1) w := by
  obtain ⟨xs, h1, h2, h3, h4, h5, h6, h7⟩ := h
  refine ⟨.list xs, ?_, h2, h3, h4, strOk_list h5, ?_, h7⟩
  · show (pdL ds).map PyData.list = _
    rw [h1]; rfl
  · show PyData.depthAll xs + 1 ≤ a + 1
    omega
theorem PlB.tup {ds : List D} {a w : Nat} (h : PlBL ds a w) : PlB (.tup ds) (a + 1) w := by
  obtain ⟨xs, h1, h2, h3, h4, h5, h6, h7⟩ := h
  refine ⟨.tuple xs, ?_, h2, h3, h4, strOk_tupB h5, ?_, h7⟩
  · show (pdL ds).map PyData.tuple = _
    rw [h1]; rfl
  · show PyData.depthAll xs + 1 ≤ a + 1
    omega
section
variable {S : Type} {s : S} {env : Env}
theorem PlB.eq {d : D} {a w : Nat} (h : PlB d a w) (ha : a ≤ 64) {neg : Bool} : (eqD neg d d : M S D) s = .ok (.bl (!neg)) s := by
  obtain ⟨x, h1, h2, h3, h4, h5, h6, h7⟩ := h
  have hs : SeqAt.shaped x = true := by
    unfold SeqAt.shaped
    rw [h2, decide_eq_true (by omega)]; rfl
  have e : eqP d d = some true := by
    unfold eqP
    rw [h1]
    show (if _ then some _ else none) = _
    rw [if_pos ⟨hs, hs⟩, SeqAt.eqv_refl x h2]
  unfold eqD; rw [e]; cases neg <;> rfl
end
end DL
set_option Elab.async false
set_option linter.all false
set_option maxRecDepth 100000
set_option maxHeartbeats 1000000
set_option autoImplicit false
/-! what laws of refusals share: errors out of defs, dates that are none, words -/
namespace DL
open PySem PySem.Spec PyProof.Rows L2 Rh
end DL
set_option Elab.async false
set_option linter.all false
set_option maxRecDepth 100000
set_option maxHeartbeats 1000000
set_option autoImplicit false
/-! lists are told apart by their texts -/
namespace DL
open PySem PySem.Spec PyProof.Rows L2 Rh TL
/-- the text of a number from 0 on -/
theorem tl_int {i : Int} (h : 0 ≤ i) : tl (PyData.shown (.int i)) = numL i.toNat := by
  obtain ⟨n, rfl⟩ := Int.eq_ofNat_of_zero_le h
  exact tl_num n
theorem int_ok {i : Int} (h : 0 ≤ i) : 44 ∉ tl (PyData.shown (.int i)) ∧ tl (PyData.shown (.int i)) ≠ [] := by
  rw [tl_int h]
  exact ⟨numL_free (.inl (by decide)), numL_ne _⟩
end DL
set_option Elab.async false
set_option linter.all false
set_option maxRecDepth 100000
set_option maxHeartbeats 4000000
set_option autoImplicit false
/-! printed by tools/hlp.py: lcm, least, rhythm of the law -/
namespace DL
open PySem PySem.Spec PyProof.Rows L2 Rh
/-! ### the models -/
def rhM (p : Int) (rs : List Int) : D := .tup [.int p, .tup (rs.map .int)]
def ModB (base : Int) (d : D) : Prop := ∃ (n : Int) (rs : List Int), d = rhM n rs ∧ n ≤ 14 ∧ Wf n rs ∧ n ∣ base
theorem pick_list {cells : List Int} {env : Env} {i : Nat} {τ : Env → M DrS D} {ds : List D} (hi : env[i]? = some (some (.val (.hnd 0)))) (h : Yes (τ env) (· = .lst ds)) (h0 : 0 < ds.length) (h1 : ds.length ≤ 100000000) : Yes (cal (sem__law_pick cells) [] 2 (aCons (rVar i) (aCons τ aNil)) env) (· ∈ ds) := by
  refine Yes.cal (args2 (P := (· = .hnd 0)) (Q := (· = .lst ds)) (fun s => ⟨_, s, rVar_run hi, rfl⟩) h) ?_
  rintro _ ⟨_, _, rfl, rfl, rfl⟩
  exact pick_ok cells h0 h1
theorem rhythm_ok (cells : List Int) {base : Int} (hb : 1 ≤ base) : Yes (sem__law_rhythm cells [.hnd 0, .int base]) (ModB base) := by
  refine Yes.runB ?_
  show Yes (rd__law_rhythm cells [some (.val (.hnd 0)), some (.val (.int base)), none, none, none, none]) _
  unfold rd__law_rhythm
  refine Yes.seq (IntE.set (i := 2) (P := fun v => 1 ≤ v ∧ v ≤ 14 ∧ v ∣ base) ?_) ?_
  · refine Yes.mono (pick_list (ds := ((rngI 1 15).filter fun q => decide (base % q = 0)).map .int) rfl (fun s => ⟨_, s, ?_, rfl⟩) ?_ ?_) ?_
    · have er : (iR2 (aCons (rC (.int 1)) (aCons (rC (.int 15)) aNil)) : Env → M DrS (List D)) [some (.val (.hnd 0)), some (.val (.int base)), none, none, none, none] s = .ok (rngD 1 15) s := iR2_of (aCons_det Det.c (aCons_det Det.c aNil_det) s) (by decide)
      have hl : (rngD 1 15).length ≤ sizeLine := by decide +kernel
      rw [cmp_run, er, Res.bind_ok, if_pos hl, rngD_eq, calm_of (cmpL_ints (fun q => decide (base % q = 0)) (fun q => .int q) ?_ ?_)]
      · rfl
      · intro q hq
        have hq := mem_rngI.mp hq
        exact DetT.eqI (Det.mod (Det.var rfl) (Det.var rfl) (by omega)) Det.c s
      · intro q hq _
        exact rVar_run rfl
    · have h1 : (1 : Int) ∈ (rngI 1 15).filter fun q => decide (base % q = 0) := List.mem_filter.mpr ⟨mem_rngI.mpr (by omega), by simp⟩
      rw [List.length_map]; exact List.length_pos_of_mem h1
    · rw [List.length_map]
      exact Nat.le_trans (List.length_filter_le _ _) (by rw [rngI_length]; decide)
    · intro d hd
      obtain ⟨q, hq, rfl⟩ := List.mem_map.mp hd
      have h1 := mem_rngI.mp (List.mem_filter.mp hq).1
      have h2 : base % q = 0 := by simpa using (List.mem_filter.mp hq).2
      exact ⟨q, rfl, by omega, by omega, Int.dvd_of_emod_eq_zero h2⟩
  rintro _ ⟨n, hn, rfl⟩
  refine Yes.seq (IntE.set (i := 4) (P := fun v => 2 ≤ v ∧ v ≤ 4) ?_) ?_
  · refine Yes.mono (pick_list (ds := [.int 2, .int 2, .int 3, .int 4]) rfl (fun s => ⟨_, s, by kernel_rfl, rfl⟩) (by decide) (by decide)) fun d hd => ?_
    simp only [List.mem_cons, List.not_mem_nil, or_false] at hd
    rcases hd with rfl | rfl | rfl | rfl <;> exact ⟨_, rfl, by decide⟩
  rintro _ ⟨o, ho, rfl⟩
  refine Yes.ret ?_
  have hc := Yes.some_of (S := DrS) (env := [some (.val (.hnd 0)), some (.val (.int base)), some (.val (.int n)), none, some (.val (.int o)), none]) (own := [5]) (i := 5) (t := asT (bin (eqD false) (cal (sem__law_take cells) [] 2 (aCons (rVar 0) (aCons (rVar 4) aNil))) (rC (.int 0)))) (τ := rVar 2) (n := n) (by omega) (by omega) (IntE.var rfl rfl) (fun _ => rfl)
    fun x _ _ => Yes.mono (IntE.eq (take_in rfl (IntE.var (P := (· = o)) rfl rfl) (by omega) (by omega)) (IntE.c (P := fun _ => True) trivial)) fun _ _ => trivial
  intro s
  obtain ⟨_, s1, e, rs, rfl, hrs⟩ := hc s
  refine ⟨_, s1, tupD_of (aCons_of (rVar_run (d := .int n) rfl) (aCons_of (call1_of e rfl) rfl)) (by simp), n, rs, rfl, hn.2.1, wf_sub hn.1 hrs, hn.2.2⟩
end DL
set_option Elab.async false
set_option linter.all false
set_option maxRecDepth 100000
set_option maxHeartbeats 4000000
set_option autoImplicit false
/-! what the laws draw: models of steps -/
namespace DL
open PySem PySem.Spec PyProof.Rows L2 Rh
section
variable {S : Type} {env : Env}
/-! ### more of what always ends -/
theorem Yes.loopN {γ : D → Env → M S Env} {τ : Env → M S Flw} (I : Nat → Env → Prop) : ∀ {xs : List D} {k : Nat}, (∀ x ∈ xs, ∀ j env, j < k + xs.length → I j env → Yes (γ x env) fun e => Yes (τ e) fun f => ∃ e', f = .nx e' ∧ I (j + 1) e') → ∀ {env : Env}, I k env → Yes (forL γ τ xs env) fun f => ∃ e', f = .nx e' ∧ I (k + xs.length) e'
  | [], k, _, env, i => Yes.pure ⟨env, rfl, i⟩
  | x :: xs, k, h, env, i => by
    refine Yes.bind (h x List.mem_cons_self k env (by simp) i) fun e he => Yes.bind he ?_
    rintro f ⟨e', rfl, i'⟩
    have := Yes.loopN I (xs := xs) (k := k + 1) (fun y hy j env hj => h y (List.mem_cons_of_mem _ hy) j env (by rw [List.length_cons]; omega)) i'
    rw [List.length_cons, show k + (xs.length + 1) = k + 1 + xs.length by omega]
    exact this
def AllE (α : Env → M S (List D)) (env : Env) (P : D → Prop) (n : Nat) : Prop := Yes (α env) fun ds => ds.length = n ∧ ∀ d ∈ ds, P d
theorem AllE.nil {P : D → Prop} : AllE (aNil : Env → M S (List D)) env P 0 := fun s => ⟨[], s, rfl, rfl, by simp⟩
theorem AllE.cons {τ : Env → M S D} {α : Env → M S (List D)} {P : D → Prop} {n : Nat} (h : Yes (τ env) P) (k : AllE α env P n) : AllE (aCons τ α) env P (n + 1) :=
  Yes.bind h fun x hx => Yes.bind k fun ds hd => Yes.pure ⟨by simp [hd.1], by
    intro d hm
    rcases List.mem_cons.mp hm with rfl | hm
    · exact hx
    · exact hd.2 d hm⟩
theorem AllE.lst {α : Env → M S (List D)} {P : D → Prop} {n : Nat} (h : AllE α env P n) (hn : n ≤ 100) : Yes (lstD α env) fun d => ∃ ds, d = .lst ds ∧ ds.length = n ∧ ∀ d ∈ ds, P d := fun s => by
  obtain ⟨ds, s1, e, hl, hp⟩ := h s
  exact ⟨_, s1, lstD_of e (by omega), ds, rfl, hl, hp⟩
theorem Yes.aCons {τ : Env → M S D} {α : Env → M S (List D)} {P : D → Prop} {R : List D → Prop} (h : Yes (τ env) P) (k : Yes (α env) R) : Yes (DL.aCons τ α env) fun ds => ∃ x r, ds = x :: r ∧ P x ∧ R r :=
  Yes.bind h fun x hx => Yes.bind k fun ds hd => Yes.pure ⟨x, ds, rfl, hx, hd⟩
theorem Yes.aNil : Yes ((DL.aNil : Env → M S (List D)) env) (· = []) := fun s => ⟨[], s, rfl, rfl⟩
theorem Yes.tup {α : Env → M S (List D)} {R : List D → Prop} (h : Yes (α env) R) (hl : ∀ ds, R ds → ds.length ≤ 100) : Yes (tupD α env) fun d => ∃ ds, d = .tup ds ∧ R ds := fun s => by
  obtain ⟨ds, s1, e, r⟩ := h s
  exact ⟨_, s1, tupD_of e (hl ds r), ds, rfl, r⟩
theorem Yes.c {d : D} : Yes ((rC d : Env → M S D) env) (· = d) := fun s => ⟨d, s, rfl, rfl⟩
theorem Yes.var {i : Nat} {d : D} (h : env[i]? = some (some (.val d))) : Yes ((rVar i : Env → M S D) env) (· = d) := fun s => ⟨d, s, rVar_run h, rfl⟩
theorem Yes.app {i : Nat} {τ : Env → M S D} {ds : List D} {P : D → Prop} (hi : env[i]? = some (some (.own ds))) (hl : ds.length < 100000) (h : Yes (τ env) P) : Yes (sApp i τ env) fun f => ∃ e, f = .nx e ∧ ∃ d, P d ∧ e = env.set i (some (.own (ds ++ [d]))) := fun s => by
  obtain ⟨d, s1, e, p⟩ := h s
  refine ⟨_, s1, ?_, _, rfl, d, p, rfl⟩
  unfold sApp
  rw [hi]
  show (τ env s).bind _ = _
  rw [e, Res.bind_ok]
  show grd _ _ s1 = _
  rw [grd_run, if_pos (by rw [sizeLine_eq]; omega)]; rfl
theorem Yes.retO {i : Nat} {ds : List D} (hi : env[i]? = some (some (.own ds))) : Yes ((sRetO i : Env → M S Flw) env) fun f => ∃ d, f = .rt d ∧ d = .lst ds := fun s => by
  refine ⟨_, s, ?_, _, rfl, rfl⟩
  unfold sRetO; rw [hi]; rfl
/-- a list of things that are drawn one by one -/
theorem Yes.drawn {own : List Nat} {i : Nat} {τ e : Env → M S D} {P : D → Prop} {lo hi : Int} (h : IntE τ env fun v => lo ≤ v ∧ v ≤ hi) (hlo : 0 ≤ lo) (hhi : hi ≤ 1000) (he : ∀ x : Int, Yes (e ((wipeE env own).set i (some (.val (.int x))))) P) :
    Yes (cmp own (iR1 (DL.aCons τ DL.aNil)) (gNm i) tYs e env) fun d => ∃ ds, d = .lst ds ∧ lo ≤ (ds.length : Int) ∧ (ds.length : Int) ≤ hi ∧ ∀ y ∈ ds, P y := fun s => by
  obtain ⟨_, s1, e1, v, rfl, h1, h2⟩ := h s
  have hc : Yes (cmpL (gNm i) tYs e (wipeE env own) (rngD 0 v)) fun ys => ys.length = (rngD 0 v).length ∧ ∀ y ∈ ys, P y := by
    refine Yes.list P fun x hx => ?_
    rw [rngD_eq] at hx
    obtain ⟨m, -, rfl⟩ := List.mem_map.mp hx
    refine Yes.mono (Yes.of fun s => gNm_run) ?_
    rintro _ rfl
    exact he m
  obtain ⟨ys, s2, e2, q1, q2⟩ := (Yes.calm hc) s1
  have hl : (rngD 0 v).length = v.toNat := by rw [rngD_eq, List.length_map, rngI_length]; omega
  refine ⟨_, s2, ?_, ys, rfl, by omega, by omega, q2⟩
  rw [cmp_run, iR1_run, aCons_run, e1]
  simp only [Res.bind_ok, aNil_run]
  rw [if_pos (show -(2 ^ 62) ≤ v ∧ v < 2 ^ 62 by omega), Res.bind_ok, if_pos (by rw [hl]; exact sz3 (by omega)), e2]
  rfl
/-- an if that returns -/
theorem Yes.ifRet {t : Env → M S Bool} {a b : Env → M S Flw} {P : D → Prop} (h : DetT t env true) (k : Yes (a env) fun f => ∃ d, f = .rt d ∧ P d) : Yes (sSeq (sIf t a sNx) b env) fun f => ∃ d, f = .rt d ∧ P d := fun s => by
  obtain ⟨_, s1, e, d, rfl, p⟩ := k s
  exact ⟨_, s1, by rw [sSeq_run, sIf_run, h s, Res.bind_ok, if_pos rfl, e]; rfl, d, rfl, p⟩
theorem choose_list {T : Type} {f : T → D} {Q : T → Prop} : ∀ {ds : List D}, (∀ y ∈ ds, ∃ x, y = f x ∧ Q x) → ∃ xs : List T, ds = xs.map f ∧ ∀ x ∈ xs, Q x
  | [], _ => ⟨[], rfl, by simp⟩
  | d :: ds, h => by
    obtain ⟨x, rfl, q⟩ := h d List.mem_cons_self
    obtain ⟨xs, rfl, qs⟩ := choose_list fun y hy => h y (List.mem_cons_of_mem _ hy)
    exact ⟨x :: xs, rfl, fun y hy => (List.mem_cons.mp hy).elim (fun e => e ▸ q) (qs y)⟩
end
section
variable {env : Env} {cells : List Int}
theorem pick_all {i : Nat} {α : Env → M DrS (List D)} {P : D → Prop} {n : Nat} (hi : env[i]? = some (some (.val (.hnd 0)))) (h : AllE α env P n) (h0 : 0 < n) (h1 : n ≤ 100) : Yes (cal (sem__law_pick cells) [] 2 (aCons (rVar i) (aCons (lstD α) aNil)) env) P := by
  refine Yes.cal (args2 (P := (· = .hnd 0)) (fun s => ⟨_, s, rVar_run hi, rfl⟩) (AllE.lst h h1)) ?_
  rintro _ ⟨_, _, rfl, rfl, ds, rfl, hl, hp⟩
  exact Yes.mono (pick_ok cells (by omega) (by omega)) fun d hd => hp d hd
theorem pick_var {i j : Nat} {ds : List D} (hi : env[i]? = some (some (.val (.hnd 0)))) (hj : env[j]? = some (some (.val (.lst ds)))) (h0 : 0 < ds.length) (h1 : ds.length ≤ 100000000) : Yes (cal (sem__law_pick cells) [] 2 (aCons (rVar i) (aCons (rVar j) aNil)) env) (· ∈ ds) := pick_list hi (Yes.var hj) h0 h1
/-- a call with what is drawn first -/
theorem draw1 {i : Nat} {τ : Env → M DrS D} {sem : List D → M DrS D} {x : D} {P : D → Prop} (hi : env[i]? = some (some (.val (.hnd 0)))) (h : Yes (τ env) (· = x)) (k : Yes (sem [.hnd 0, x]) P) : Yes (cal sem [] 2 (aCons (rVar i) (aCons τ aNil)) env) P := by
  refine Yes.cal (args2 (P := (· = .hnd 0)) (fun s => ⟨_, s, rVar_run hi, rfl⟩) h) ?_
  rintro _ ⟨_, _, rfl, rfl, rfl⟩
  exact k
theorem draw2 {i : Nat} {τ υ : Env → M DrS D} {sem : List D → M DrS D} {x y : D} {P : D → Prop} (hi : env[i]? = some (some (.val (.hnd 0)))) (h : Yes (τ env) (· = x)) (h' : Yes (υ env) (· = y)) (k : Yes (sem [.hnd 0, x, y]) P) : Yes (cal sem [] 3 (aCons (rVar i) (aCons τ (aCons υ aNil))) env) P := by
  refine Yes.cal (P := (· = [.hnd 0, x, y])) (Yes.mono (Yes.aCons (Yes.var hi) (Yes.aCons h (Yes.aCons h' Yes.aNil))) ?_) ?_
  · rintro _ ⟨_, _, rfl, rfl, _, _, rfl, rfl, _, _, rfl, rfl, rfl⟩
    exact ⟨rfl, rfl⟩
  · rintro _ rfl
    exact k
/-! ### numbers, plain steps -/
def IsI (P : Int → Prop) (d : D) : Prop := ∃ v, d = .int v ∧ P v
theorem day_ok (cells : List Int) {wide : Int} (h1 : 1 ≤ wide) (h2 : wide ≤ 101) : Yes (sem__law_day cells [.hnd 0, .int wide]) (IsI small) := by
  refine Yes.runB ?_
  show Yes (rd__law_day cells [some (.val (.hnd 0)), some (.val (.int wide)), none]) _
  unfold rd__law_day
  have tk : IntE (cal (sem__law_take cells) [] 2 (aCons (rVar 0) (aCons (rVar 1) aNil))) [some (.val (.hnd 0)), some (.val (.int wide)), none] small := Yes.mono (take_in rfl (IntE.var (P := (· = wide)) rfl rfl) (by omega) (by omega)) (by
    rintro _ ⟨v, rfl, a, b⟩
    exact ⟨v, rfl, by unfold small; omega⟩)
  refine Yes.seq (Yes.set (AllE.lst (n := 5) (P := IsI small) (AllE.cons tk (AllE.cons tk (AllE.cons ?_ (AllE.cons ?_ (AllE.cons ?_ AllE.nil))))) (by decide))) ?_
  · exact IntE.op0 (g := fun i j => i - j) (take_in rfl (IntE.c (P := (· = 9)) rfl) (by decide) (by decide)) (IntE.c (P := (· = 4)) rfl) (by rintro i j a rfl; unfold small; omega)
  · exact IntE.c (by decide)
  · exact IntE.op0 (g := fun i j => i - j) (take_in rfl (IntE.c (P := (· = 201)) rfl) (by decide) (by decide)) (IntE.c (P := (· = 100)) rfl) (by rintro i j a rfl; unfold small; omega)
  rintro _ ⟨_, ⟨ds, rfl, hl, hp⟩, rfl⟩
  exact Yes.ret (Yes.mono (pick_var rfl rfl (by omega) (by omega)) hp)
end
def Pl.mD : Pl → DL.D
  | .shift n => .tup [.str "shift", .int n]
  | .frm n => .tup [.str "from", .int n]
  | .unt n => .tup [.str "until", .int n]
  | .keep p rs => .tup [.str "keep", rhM p rs]
  | .strike p rs => .tup [.str "strike", rhM p rs]
def Stp.mD : Stp → DL.D
  | .pl x => x.mD
  | .add p rs a b => .tup [.str "add", rhM p rs, .int a, optD b]
  | .since n xs => .tup [.str "since", .int n, .tup (xs.map Pl.mD)]
/-- small enough, with rounds that divide a base -/
def Pl.dv (base : Int) : Pl → Prop
  | .shift n => -10 ≤ n ∧ n ≤ 10
  | .keep p _ => p ∣ base
  | .strike p _ => p ∣ base
  | _ => True
def Stp.dv (base : Int) : Stp → Prop
  | .pl x => x.dv base
  | .add p _ _ _ => p ∣ base
  | .since _ xs => xs.length ≤ 2 ∧ ∀ x ∈ xs, x.dv base
def Stp.isSi : Stp → Bool
  | .since _ _ => true
  | _ => false
def Stp.isAd : Stp → Bool
  | .add _ _ _ _ => true
  | _ => false
def IsPl (base : Int) (d : D) : Prop := ∃ x : Pl, d = x.mD ∧ x.wf ∧ x.dv base
abbrev stp2 (cells : List Int) : Env → M DrS Flw := (sSeq (sIf (asT (bin (eqD false) (rVar 3) (rC (.str "shift")))) (sRet (tupD (aCons (rVar 3) (aCons (cal (sem__law_pick cells) [] 2 (aCons (rVar 0) (aCons (lstD (aCons (rC (.int 1)) (aCons (negD (rC (.int 1))) (aCons (rC (.int 7)) (aCons (negD (rC (.int 7))) (aCons (rC (.int 2)) (aCons (bin subD (cal (sem__law_take cells) [] 2 (aCons (rVar 0) (aCons (rC (.int 21)) aNil))) (rC (.int 10))) aNil))))))) aNil))) aNil)))) sNx) (sSeq (sIf (asT (bin (inD false) (rVar 3) (tupD (aCons (rC (.str "keep")) (aCons (rC (.str "strike")) aNil))))) (sRet (tupD (aCons (rVar 3) (aCons (cal (sem__law_rhythm cells) [] 2 (aCons (rVar 0) (aCons (rVar 1) aNil))) aNil)))) sNx) (sRet (tupD (aCons (rVar 3) (aCons (cal (sem__law_day cells) [] 2 (aCons (rVar 0) (aCons (rVar 2) aNil))) aNil))))))
theorem plain_step_ok (cells : List Int) {base wide : Int} (hb : 1 ≤ base) (h1 : 1 ≤ wide) (h2 : wide ≤ 101) : Yes (sem__law_plain_step cells [.hnd 0, .int base, .int wide]) (IsPl base) := by
  refine Yes.runB ?_
  show Yes (rd__law_plain_step cells [some (.val (.hnd 0)), some (.val (.int base)), some (.val (.int wide)), none]) _
  unfold rd__law_plain_step
  refine Yes.seq (Yes.set (pick_list (ds := [.str "shift", .str "shift", .str "keep", .str "strike", .str "strike", .str "from", .str "until"]) rfl (fun s => ⟨_, s, by kernel_rfl, rfl⟩) (by decide) (by decide))) ?_
  rintro _ ⟨d, hd, rfl⟩
  show Yes (sSeq _ _ [some (.val (.hnd 0)), some (.val (.int base)), some (.val (.int wide)), some (.val d)]) _
  have fin : ∀ {w : Str} {τ : Env → M DrS D} {P : D → Prop} {env : Env} (_ : env[3]? = some (some (.val (.str w)))) (_ : Yes (τ env) P) (_ : ∀ y, P y → IsPl base (.tup [.str w, y])), Yes (sRet (tupD (aCons (rVar 3) (aCons τ aNil))) env) fun f => ∃ d, f = .rt d ∧ IsPl base d := fun hw h k => by
    refine Yes.ret (Yes.mono (Yes.tup (Yes.aCons (Yes.var hw) (Yes.aCons h Yes.aNil)) ?_) ?_)
    · rintro _ ⟨_, _, rfl, rfl, _, _, rfl, _, rfl⟩
      simp
    · rintro _ ⟨_, rfl, _, _, rfl, rfl, y, _, rfl, hy, rfl⟩
      exact k y hy
  have sh : Yes (stp2 cells [some (.val (.hnd 0)), some (.val (.int base)), some (.val (.int wide)), some (.val (.str "shift"))]) fun f => ∃ d, f = .rt d ∧ IsPl base d := by
    refine Yes.ifRet (fun s => by kernel_rfl) (fin (P := IsI fun v => -10 ≤ v ∧ v ≤ 10) rfl (pick_all (n := 6) rfl ?_ (by decide) (by decide)) ?_)
    · exact AllE.cons (IntE.c (by decide)) (AllE.cons (fun s => ⟨.int (-1), s, rfl, -1, rfl, by decide⟩) (AllE.cons (IntE.c (by decide)) (AllE.cons (fun s => ⟨.int (-7), s, rfl, -7, rfl, by decide⟩) (AllE.cons (IntE.c (by decide)) (AllE.cons (IntE.op0 (g := fun i j => i - j) (take_in rfl (IntE.c (P := (· = 21)) rfl) (by decide) (by decide)) (IntE.c (P := (· = 10)) rfl) (by rintro i j a rfl; omega)) AllE.nil)))))
    · rintro _ ⟨v, rfl, hv⟩
      exact ⟨.shift v, rfl, ⟨by omega, by omega⟩, hv⟩
  have rh : ∀ w : Str, w = "keep" ∨ w = "strike" → Yes (stp2 cells [some (.val (.hnd 0)), some (.val (.int base)), some (.val (.int wide)), some (.val (.str w))]) fun f => ∃ d, f = .rt d ∧ IsPl base d := fun w hw => by
    refine Yes.seqSkip (fun s => by rcases hw with rfl | rfl <;> kernel_rfl) (Yes.ifRet (fun s => by rcases hw with rfl | rfl <;> kernel_rfl) (fin rfl (draw1 rfl (Yes.var rfl) (rhythm_ok cells hb)) ?_))
    rintro _ ⟨n, rs, rfl, hn, hw', hd⟩
    rcases hw with rfl | rfl
    · exact ⟨.keep n rs, rfl, hw', hd⟩
    · exact ⟨.strike n rs, rfl, hw', hd⟩
  have dy : ∀ w : Str, w = "from" ∨ w = "until" → Yes (stp2 cells [some (.val (.hnd 0)), some (.val (.int base)), some (.val (.int wide)), some (.val (.str w))]) fun f => ∃ d, f = .rt d ∧ IsPl base d := fun w hw => by
    refine Yes.seqSkip (fun s => by rcases hw with rfl | rfl <;> kernel_rfl) (Yes.seqSkip (fun s => by rcases hw with rfl | rfl <;> kernel_rfl) (fin rfl (draw1 rfl (Yes.var rfl) (day_ok cells h1 h2)) ?_))
    rintro _ ⟨v, rfl, hv⟩
    rcases hw with rfl | rfl
    · exact ⟨.frm v, rfl, hv, trivial⟩
    · exact ⟨.unt v, rfl, hv, trivial⟩
  simp only [List.mem_cons, List.not_mem_nil, or_false] at hd
  rcases hd with rfl | rfl | rfl | rfl | rfl | rfl | rfl
  · exact sh
  · exact sh
  · exact rh _ (.inl rfl)
  · exact rh _ (.inr rfl)
  · exact rh _ (.inr rfl)
  · exact dy _ (.inl rfl)
  · exact dy _ (.inr rfl)
/-! ### lists of steps -/
structure IsSts (base : Int) (most : Nat) (new : Bool) (xs : List Stp) : Prop where
  len : xs.length ≤ most
  wf : ∀ x ∈ xs, x.wf
  dv : ∀ x ∈ xs, x.dv base
  si : (xs.filter Stp.isSi).length ≤ 2
  ad : new = false → ∀ x ∈ xs, x.isAd = false
theorem IsSts.push {base : Int} {most : Nat} {new : Bool} {xs : List Stp} {x : Stp} (h : IsSts base most new xs) (hw : x.wf) (hd : x.dv base) (hs : x.isSi = true → (xs.filter Stp.isSi).length < 2) (ha : new = false → x.isAd = false) : IsSts base (most + 1) new (xs ++ [x]) where
  len := by have := h.len; simp; omega
  wf := fun y hy => (List.mem_append.mp hy).elim (h.wf y) fun z => by cases List.mem_singleton.mp z; exact hw
  dv := fun y hy => (List.mem_append.mp hy).elim (h.dv y) fun z => by cases List.mem_singleton.mp z; exact hd
  si := by
    rw [List.filter_append, List.length_append]
    have := h.si
    cases c : x.isSi with
    | true => have := hs c; rw [List.filter_cons_of_pos c]; simp; omega
    | false => rw [List.filter_cons_of_neg (by rw [c]; simp)]; simp; omega
  ad := fun n y hy => (List.mem_append.mp hy).elim (h.ad n y) fun z => by cases List.mem_singleton.mp z; exact ha n
def bases : List Int := [1, 2, 3, 4, 6, 7, 12, 14]
abbrev ES (most wide : Int) (b : Bool) (base : Int) (ds : List D) (x6 x7 x8 x9 x10 x11 x12 : Option Slot) : Env := [some (.val (.hnd 0)), some (.val (.int most)), some (.val (.int wide)), some (.val (.bl b)), some (.val (.int base)), some (.own ds), x6, x7, x8, x9, x10, x11, x12]
theorem count_det {S : Type} {most wide : Int} {b : Bool} {base : Int} {xs : List Stp} {x6 x7 x8 x9 x10 x11 x12 : Option Slot} (hl : xs.length ≤ 1000) : DetT (S := S) (asT (bin ltD (bcl lenD (aCons (cmp [10] (iOwn 5) (gNm 10) (asT (bin (eqD false) (bin ixD (rVar 10) (rC (.int 0))) (rC (.str "since")))) (rVar 10)) aNil)) (rC (.int 2)))) (ES most wide b base (xs.map Stp.mD) x6 x7 x8 x9 x10 x11 x12) (decide (((xs.filter Stp.isSi).length : Int) < 2)) := by
  refine DetT.lt (Det.call1 (x := .lst ((xs.filter Stp.isSi).map Stp.mD)) (fun s => ?_) fun s => ?_) Det.c
  · have e0 : (iOwn 5 : Env → M S (List D)) (ES most wide b base (xs.map Stp.mD) x6 x7 x8 x9 x10 x11 x12) s = .ok (xs.map Stp.mD) s := rfl
    rw [cmp_run, e0, Res.bind_ok, if_pos (by rw [List.length_map]; exact sz1000 hl), calm_of (cmpL_T Stp.mD Stp.isSi Stp.mD (fun x _ => ?_) fun x _ _ => rVar_run rfl)]
    · rfl
    · cases x with
      | pl y => cases y <;> kernel_rfl
      | _ => kernel_rfl
  · show Res.ok (D.int (((xs.filter Stp.isSi).map Stp.mD).length : Int)) s = _
    rw [List.length_map]
theorem steps_yes (cells : List Int) {most : Nat} {wide : Int} {b : Bool} (hm : most ≤ 20) (h1 : 1 ≤ wide) (h2 : wide ≤ 101) : Yes (sem__law_steps cells [.hnd 0, .int (most : Int), .int wide, .bl b]) fun d => ∃ base ∈ bases, ∃ xs : List Stp, d = .lst (xs.map Stp.mD) ∧ IsSts base most b xs := by
  refine Yes.runB ?_
  show Yes (rd__law_steps cells [some (.val (.hnd 0)), some (.val (.int (most : Int))), some (.val (.int wide)), some (.val (.bl b)), none, none, none, none, none, none, none, none, none]) _
  unfold rd__law_steps
  refine Yes.seq (I := fun e => ∃ base ∈ bases, e = ES most wide b base [] none none none none none none none) ?_ ?_
  · intro s
    obtain ⟨d, s1, e, hd⟩ := pick_list (cells := cells) (env := [some (.val (.hnd 0)), some (.val (.int (most : Int))), some (.val (.int wide)), some (.val (.bl b)), none, none, none, none, none, none, none, none, none]) (i := 0) (τ := lstD (aCons (rC (.int 1)) (aCons (rC (.int 2)) (aCons (rC (.int 3)) (aCons (rC (.int 4)) (aCons (rC (.int 6)) (aCons (rC (.int 7)) (aCons (rC (.int 12)) (aCons (rC (.int 14)) aNil))))))))) (ds := bases.map .int) rfl (fun s => ⟨_, s, by kernel_rfl, rfl⟩) (by decide) (by decide) s
    obtain ⟨base, hb, rfl⟩ := List.mem_map.mp hd
    refine ⟨_, s1, ?_, _, rfl, base, hb, rfl⟩
    unfold sParO
    rw [bind_run, e]; rfl
  rintro _ ⟨base, hb, rfl⟩
  have hb1 : 1 ≤ base := by
    simp only [bases, List.mem_cons, List.not_mem_nil, or_false] at hb
    omega
  refine Yes.seq (I := fun e => ∃ (xs : List Stp) (x6 x7 x8 x9 x10 x11 x12 : Option Slot), IsSts base most b xs ∧ e = ES most wide b base (xs.map Stp.mD) x6 x7 x8 x9 x10 x11 x12) ?_ ?_
  rotate_left
  · rintro _ ⟨xs, x6, x7, x8, x9, x10, x11, x12, hx, rfl⟩
    exact Yes.mono (Yes.retO rfl) (by rintro _ ⟨_, rfl, rfl⟩; exact ⟨_, rfl, base, hb, xs, rfl, hx⟩)
  show Yes (sFor _ _ _ _) _
  refine Yes.bind (P := fun ds => ds.length ≤ most) ?_ fun ds hd => ?_
  · intro s
    obtain ⟨_, s1, e, v, rfl, v1, v2⟩ := take_in (cells := cells) (env := ES most wide b base [] none none none none none none none) (i := 0) (τ := bin addD (rVar 1) (rC (.int 1))) (many := (most : Int) + 1) rfl (IntE.add (P := (· = (most : Int))) (Q := (· = 1)) (IntE.var rfl rfl) (IntE.c rfl) (by rintro i j rfl rfl; rfl)) (by omega) (by omega) s
    refine ⟨rngD 0 v, s1, ?_, ?_⟩
    · rw [iR1_run, aCons_run, e]
      simp only [Res.bind_ok, aNil_run]
      rw [if_pos (show -(2 ^ 62) ≤ v ∧ v < 2 ^ 62 by omega)]
    · show (rngD 0 v).length ≤ most
      rw [rngD_eq, List.length_map, rngI_length]; omega
  refine Yes.mono (Yes.loopN (fun k e => ∃ (xs : List Stp) (x6 x7 x8 x9 x10 x11 x12 : Option Slot), IsSts base k b xs ∧ e = ES most wide b base (xs.map Stp.mD) x6 x7 x8 x9 x10 x11 x12) (k := 0) ?_ ⟨[], none, none, none, none, none, none, none, ⟨Nat.le_refl _, by simp, by simp, by simp, by simp⟩, rfl⟩) ?_
  rotate_left
  · rintro _ ⟨e, rfl, xs, x6, x7, x8, x9, x10, x11, x12, hx, rfl⟩
    exact ⟨_, rfl, xs, x6, x7, x8, x9, x10, x11, x12, ⟨by have := hx.len; omega, hx.wf, hx.dv, hx.si, hx.ad⟩, rfl⟩
  rintro tn - k _ hk ⟨xs, x6, x7, x8, x9, x10, x11, x12, hx, rfl⟩
  refine Yes.mono (Yes.of fun s => gNm_run) ?_
  rintro _ rfl
  show Yes (sSeq _ _ (ES most wide b base (xs.map Stp.mD) (some (.val tn)) x7 x8 x9 x10 x11 x12)) _
  refine Yes.seq (IntE.set (take_in rfl (IntE.c (P := (· = 6)) rfl) (by decide) (by decide))) ?_
  rintro _ ⟨w, -, rfl⟩
  show Yes (sIf _ _ _ (ES most wide b base (xs.map Stp.mD) (some (.val tn)) (some (.val (.int w))) x8 x9 x10 x11 x12)) _
  have hlen0 : xs.length ≤ 20 := by have := hx.len; omega
  have hlen : (xs.map Stp.mD).length < 100000 := by rw [List.length_map]; omega
  refine Yes.if_ (P := fun c => c = (w == 0 && b)) (fun s => ⟨_, s, ?_, rfl⟩) (fun c => ?_) fun _ => ?_
  · rw [andT_run, asT_run, bin_run, rVar_run (d := .int w) rfl, Res.bind_ok, rC_run, Res.bind_ok, eqD_int, Res.bind_ok]
    cases (w == 0) <;> rfl
  · -- an add
    have hbt : b = true := by
      cases b with
      | true => rfl
      | false => simp at c
    refine Yes.seq (Yes.set (draw1 rfl (Yes.var rfl) (day_ok cells h1 h2))) ?_
    rintro _ ⟨_, ⟨f, rfl, hf⟩, rfl⟩
    show Yes (sSeq _ _ (ES most wide b base (xs.map Stp.mD) (some (.val tn)) (some (.val (.int w))) (some (.val (.int f))) x9 x10 x11 x12)) _
    refine Yes.seq (Yes.set (pick_all (n := 4) (P := fun d => ∃ o : Option Int, d = optD o ∧ ∀ v, o = some v → -100 ≤ v) rfl ?_ (by decide) (by decide))) ?_
    · have fv : IntE (rVar 8 : Env → M DrS D) (ES most wide b base (xs.map Stp.mD) (some (.val tn)) (some (.val (.int w))) (some (.val (.int f))) x9 x10 x11 x12) (· = f) := IntE.var rfl rfl
      have up : ∀ {d : D}, IsI (fun v => -100 ≤ v) d → ∃ o : Option Int, d = optD o ∧ ∀ v, o = some v → -100 ≤ v := by
        rintro _ ⟨v, rfl, hv⟩
        exact ⟨some v, rfl, by rintro _ ⟨⟩; exact hv⟩
      refine AllE.cons (Yes.mono Yes.c (by rintro _ rfl; exact ⟨none, rfl, by simp⟩)) (AllE.cons (Yes.mono (P := IsI fun v => -100 ≤ v) (IntE.add fv (take_in rfl (IntE.c (P := (· = 15)) rfl) (by decide) (by decide)) ?_) fun _ => up) (AllE.cons (Yes.mono (P := IsI fun v => -100 ≤ v) (IntE.var rfl hf.1) fun _ => up) (AllE.cons (Yes.mono (draw1 rfl (Yes.var rfl) (day_ok cells h1 h2)) ?_) AllE.nil)))
      · rintro i j rfl h
        have := hf.1
        omega
      · rintro _ ⟨v, rfl, hv⟩
        exact up ⟨v, rfl, hv.1⟩
    rintro _ ⟨_, ⟨o, rfl, ho⟩, rfl⟩
    show Yes (sApp 5 _ (ES most wide b base (xs.map Stp.mD) (some (.val tn)) (some (.val (.int w))) (some (.val (.int f))) (some (.val (optD o))) x10 x11 x12)) _
    refine Yes.mono (Yes.app rfl hlen (Yes.tup (Yes.aCons Yes.c (Yes.aCons (draw1 rfl (Yes.var rfl) (rhythm_ok cells hb1)) (Yes.aCons (Yes.var rfl) (Yes.aCons (P := fun d => ∃ o' : Option Int, d = optD o' ∧ optOk o') ?_ Yes.aNil)))) ?_)) ?_
    · intro s
      cases o with
      | none => exact ⟨.non, s, by kernel_rfl, none, rfl, trivial⟩
      | some v =>
        have hv := ho v rfl
        refine ⟨.int (if v < 100 then v else 100), s, by kernel_rfl, some (if v < 100 then v else 100), rfl, ?_⟩
        show -100 ≤ _ ∧ _ ≤ 100
        split <;> omega
    · rintro _ ⟨_, _, rfl, _, _, _, rfl, _, _, _, rfl, _, _, _, rfl, _, rfl⟩
      simp
    · rintro _ ⟨_, rfl, _, ⟨_, rfl, _, _, rfl, rfl, _, _, rfl, ⟨n, rs, rfl, hn, hw, hd⟩, _, _, rfl, rfl, _, _, rfl, ⟨o', rfl, ho'⟩, rfl⟩, rfl⟩
      refine ⟨_, rfl, xs ++ [.add n rs f o'], some (.val tn), some (.val (.int w)), some (.val (.int f)), some (.val (optD o)), x10, x11, x12, hx.push (x := .add n rs f o') ⟨hw, hf, ho'⟩ hd (by simp [Stp.isSi]) (by rw [hbt]; simp), ?_⟩
      rw [List.map_append]; rfl
  refine Yes.if_ (P := fun c => c = true → (xs.filter Stp.isSi).length < 2) (fun s => ?_) (fun c => ?_) fun _ => ?_
  · have e1 : (asT (bin (eqD false) (rVar 7) (rC (.int 1))) : Env → M DrS Bool) (ES most wide b base (xs.map Stp.mD) (some (.val tn)) (some (.val (.int w))) x8 x9 x10 x11 x12) s = .ok (w == 1) s := rfl
    rw [andT_run, e1, Res.bind_ok]
    cases (w == 1) with
    | false => exact ⟨false, s, rfl, by simp⟩
    | true =>
      rw [if_pos rfl, count_det (by omega) s]
      exact ⟨_, s, rfl, fun z => by have := of_decide_eq_true z; omega⟩
  · have c := c rfl
    refine Yes.seq (Yes.set (Yes.drawn (P := IsPl base) (lo := 1) (hi := 2) (IntE.add (IntE.c (P := (· = 1)) rfl) (take_in rfl (IntE.c (P := (· = 2)) rfl) (by decide) (by decide)) (by rintro i j rfl h; omega)) (by decide) (by decide) fun x => draw2 rfl (Yes.var rfl) (Yes.var rfl) (plain_step_ok cells hb1 h1 h2))) ?_
    rintro _ ⟨_, ⟨ds, rfl, l1, l2, hp⟩, rfl⟩
    obtain ⟨ys, rfl, hy⟩ := choose_list hp
    rw [List.length_map] at l1 l2
    show Yes (sApp 5 _ (ES most wide b base (xs.map Stp.mD) (some (.val tn)) (some (.val (.int w))) x8 x9 x10 (some (.val (.lst (ys.map Pl.mD)))) x12)) _
    refine Yes.mono (Yes.app rfl hlen (Yes.tup (Yes.aCons Yes.c (Yes.aCons (draw1 rfl (Yes.var rfl) (day_ok cells h1 h2)) (Yes.aCons (P := (· = .tup (ys.map Pl.mD))) (fun s => ⟨_, s, rfl, rfl⟩) Yes.aNil))) ?_)) ?_
    · rintro _ ⟨_, _, rfl, _, _, _, rfl, _, _, _, rfl, _, rfl⟩
      simp
    · rintro _ ⟨_, rfl, _, ⟨_, rfl, _, _, rfl, rfl, _, _, rfl, ⟨n, rfl, hn⟩, _, _, rfl, rfl, rfl⟩, rfl⟩
      refine ⟨_, rfl, xs ++ [.since n ys], some (.val tn), some (.val (.int w)), x8, x9, x10, some (.val (.lst (ys.map Pl.mD))), x12, hx.push (x := .since n ys) ⟨hn, fun z => by rw [z] at l1; simp at l1, fun y hy' => (hy y hy').1⟩ ⟨by omega, fun y hy' => (hy y hy').2⟩ (fun _ => c) (by simp [Stp.isAd]), ?_⟩
      rw [List.map_append]; rfl
  · refine Yes.mono (Yes.app rfl hlen (draw2 rfl (Yes.var rfl) (Yes.var rfl) (plain_step_ok cells hb1 h1 h2))) ?_
    rintro _ ⟨_, rfl, _, ⟨y, rfl, hw, hd⟩, rfl⟩
    refine ⟨_, rfl, xs ++ [.pl y], some (.val tn), some (.val (.int w)), x8, x9, x10, x11, x12, hx.push (x := .pl y) hw hd (by simp [Stp.isSi]) (by simp [Stp.isAd]), ?_⟩
    rw [List.map_append]; rfl
end DL
set_option Elab.async false
set_option linter.all false
set_option maxRecDepth 100000
set_option maxHeartbeats 4000000
set_option autoImplicit false
/-! what the laws' own helpers reckon of models of scripts -/
namespace DL
open PySem PySem.Spec PyProof.Rows L2 Rh
/-! ### bounds of what is drawn -/
theorem bases_le {base : Int} (h : base ∈ bases) : 1 ≤ base ∧ base ≤ 14 := by
  simp only [bases, List.mem_cons, List.not_mem_nil, or_false] at h
  omega
theorem flat_len0 {base : Int} : ∀ xs : List Stp, (∀ x ∈ xs, x.dv base) → (flatS xs).length ≤ xs.length + 2 * (xs.filter Stp.isSi).length
  | [], _ => Nat.le_refl _
  | x :: xs, h => by
    have ih := flat_len0 xs fun y hy => h y (List.mem_cons_of_mem _ hy)
    have hx := h x List.mem_cons_self
    unfold flatS at *
    rw [List.flatMap_cons, List.length_append]
    cases x with
    | pl y => rw [List.filter_cons_of_neg (by simp [Stp.isSi])]; simp only [Stp.flat, List.length_cons, List.length_nil]; omega
    | add p rs a b => rw [List.filter_cons_of_neg (by simp [Stp.isSi])]; simp only [Stp.flat, List.length_cons, List.length_nil]; omega
    | since n ys =>
      have : ys.length ≤ 2 := hx.1
      rw [List.filter_cons_of_pos rfl]; simp only [Stp.flat, List.length_cons, List.length_map]; omega
theorem IsSts.flat {base : Int} {most : Nat} {new : Bool} {xs : List Stp} (h : IsSts base most new xs) : (flatS xs).length ≤ most + 4 := by
  have := flat_len0 xs h.dv
  have := h.len
  have := h.si
  omega
theorem flat_dv {base : Int} {xs : List Stp} (h : ∀ x ∈ xs, x.dv base) : ∀ z ∈ flatS xs, z.dv base := fun z hz => by
  obtain ⟨x, hx, hz⟩ := List.mem_flatMap.mp hz
  have hd := h x hx
  cases x with
  | pl y => cases List.mem_singleton.mp hz; exact hd
  | add p rs a b => cases List.mem_singleton.mp hz; exact hd
  | since n ys =>
    rcases List.mem_cons.mp hz with rfl | hz
    · exact hd
    · obtain ⟨y, hy, rfl⟩ := List.mem_map.mp hz
      exact hd.2 y hy
theorem sp_le {base : Int} {z : Stp} (h : z.dv base) : z.sp ≤ 10 := by
  cases z with
  | pl y => cases y with
    | shift n =>
      have h : -10 ≤ n ∧ n ≤ 10 := h
      show absI n ≤ 10
      unfold absI; split <;> omega
    | _ => show (0 : Int) ≤ 10; decide
  | _ => show (0 : Int) ≤ 10; decide
theorem sum_le {c : Int} : ∀ l : List Int, (∀ x ∈ l, x ≤ c) → sumL l ≤ c * l.length
  | [], _ => by simp [sumL]
  | x :: l, h => by
    rw [sumL_cons, List.length_cons]
    have h1 := h x List.mem_cons_self
    have h2 := sum_le l fun y hy => h y (List.mem_cons_of_mem _ hy)
    have : c * ((l.length + 1 : Nat) : Int) = c * (l.length : Int) + c := by rw [show ((l.length + 1 : Nat) : Int) = (l.length : Int) + 1 from rfl, Int.mul_add, Int.mul_one]
    omega
theorem span_le {base : Int} {xs : List Stp} (h : ∀ x ∈ xs, x.dv base) : spanS xs ≤ 10 * (flatS xs).length := by
  unfold spanS
  have := sum_le (c := 10) ((flatS xs).map Stp.sp) fun y hy => by
    obtain ⟨z, hz, rfl⟩ := List.mem_map.mp hy
    exact sp_le (flat_dv h z hz)
  rw [List.length_map] at this
  exact this
theorem least_dvd {p : Int} {rs : List Int} (w : Wf p rs) : leastP p rs ∣ p := Int.dvd_of_emod_eq_zero (form_le w).2
theorem rounds_real_dvd {base : Int} {xs : List Stp} (hw : ∀ x ∈ xs, x.wf) (h : ∀ x ∈ xs, x.dv base) : ∀ p ∈ rounds (reals xs), p ∣ base := fun p hp => by
  unfold rounds at hp
  rw [flat_real] at hp
  obtain ⟨z, hz, e⟩ := List.mem_filterMap.mp hp
  obtain ⟨y, hy, rfl⟩ := List.mem_map.mp hz
  have w := flat_wf hw y hy
  have d := flat_dv h y hy
  cases y with
  | pl x => cases x with
    | keep q rs => cases e; exact Int.dvd_trans (least_dvd w) d
    | strike q rs => cases e; exact Int.dvd_trans (least_dvd w) d
    | _ => cases e
  | add q rs a b => cases e; exact Int.dvd_trans (least_dvd w.1) d
  | since n ys => cases e
theorem round_real_le {base : Int} {xs : List Stp} (hb : 1 ≤ base) (hw : ∀ x ∈ xs, x.wf) (h : ∀ x ∈ xs, x.dv base) : roundS (reals xs) ≤ base :=
  Int.le_of_dvd (by omega) (lcmL_dvd _ 1 base hb (by decide) (rounds_pos (reals_wf hw)) (Int.one_dvd base) (rounds_real_dvd hw h))
theorem rh_le {base : Int} (hb : 1 ≤ base ∧ base ≤ 14) {p : Int} (h : p ∣ base) : p ≤ 14 := Int.le_trans (Int.le_of_dvd (by omega) h) hb.2
section
variable {S : Type} {s : S} {cs : List Str} {env : Env}
/-! ### real steps -/
def rdReal (cs : List Str) (sb : List D → M S D) : Env → M S Flw :=
  (sSeq (sIf (asT (bin (inD false) (bin ixD (rVar 0) (rC (.int 0))) (tupD (aCons (rC (.str "keep")) (aCons (rC (.str "strike")) (aCons (rC (.str "add")) aNil)))))) (sRet (bin addD (bin addD (slcD (rVar 0) oNone (oSome (rC (.int 1)))) (tupD (aCons (mk "Rhythm" (sem_Rhythm___init__ cs) [] 2 (aCons (bin ixD (bin ixD (rVar 0) (rC (.int 1))) (rC (.int 0))) (aCons (bin ixD (bin ixD (rVar 0) (rC (.int 1))) (rC (.int 1))) aNil))) aNil))) (slcD (rVar 0) (oSome (rC (.int 2))) oNone))) sNx) (sSeq (sIf (asT (bin (eqD false) (bin ixD (rVar 0) (rC (.int 0))) (rC (.str "since")))) (sRet (bin addD (slcD (rVar 0) oNone (oSome (rC (.int 2)))) (tupD (aCons (bcl tupleD (aCons (cmp [1] (iSq (bin ixD (rVar 0) (rC (.int 2)))) (gNm 1) tYs (cal sb [] 1 (aCons (rVar 1) aNil))) aNil)) aNil)))) sNx) (sRet (rVar 0))))
theorem rdReal1 : (rd__law_real1 cs : Env → M S Flw) = rdReal cs sem__law_real0 := rfl
theorem rdReal2 : (rd__law_real2 cs : Env → M S Flw) = rdReal cs (sem__law_real1 cs) := rfl
theorem real_mk {d : D} {p : Int} {rs : List Int} (w : Wf p rs) (hp : p ≤ 3000) (h : (aCons (bin ixD (bin ixD (rVar 0) (rC (.int 1))) (rC (.int 0))) (aCons (bin ixD (bin ixD (rVar 0) (rC (.int 1))) (rC (.int 1))) aNil) : Env → M S (List D)) [some (.val d), none] s = .ok [.int p, .tup (rs.map .int)] s) :
    (tupD (aCons (mk "Rhythm" (sem_Rhythm___init__ cs) [] 2 (aCons (bin ixD (bin ixD (rVar 0) (rC (.int 1))) (rC (.int 0))) (aCons (bin ixD (bin ixD (rVar 0) (rC (.int 1))) (rC (.int 1))) aNil))) aNil) : Env → M S D) [some (.val d), none] s = .ok (.tup [rhD (leastP p rs) (formR p rs)]) s := by
  have hl : rs.length ≤ 3000 := Nat.le_trans (wf_len w) (by have := w.pos; omega)
  exact tupD_of (aCons_of (mk_rh h (.inr rfl) ⟨wfB_iff.mpr w, hp, hl⟩) rfl) (by simp)
theorem real_core {d r0 r2 r : D} {p : Int} {rs : List Int} {sb : List D → M S D} (w : Wf p rs) (hp : p ≤ 3000) (h : (aCons (bin ixD (bin ixD (rVar 0) (rC (.int 1))) (rC (.int 0))) (aCons (bin ixD (bin ixD (rVar 0) (rC (.int 1))) (rC (.int 1))) aNil) : Env → M S (List D)) [some (.val d), none] s = .ok [.int p, .tup (rs.map .int)] s)
    (t : (asT (bin (inD false) (bin ixD (rVar 0) (rC (.int 0))) (tupD (aCons (rC (.str "keep")) (aCons (rC (.str "strike")) (aCons (rC (.str "add")) aNil))))) : Env → M S Bool) [some (.val d), none] s = .ok true s)
    (e0 : (slcD (rVar 0) oNone (oSome (rC (.int 1))) : Env → M S D) [some (.val d), none] s = .ok r0 s) (e2 : (slcD (rVar 0) (oSome (rC (.int 2))) oNone : Env → M S D) [some (.val d), none] s = .ok r2 s)
    (k : ∀ x : D, ∃ y, (addD r0 (.tup [x]) : M S D) s = .ok y s ∧ (x = rhD (leastP p rs) (formR p rs) → (addD y r2 : M S D) s = .ok r s)) : rdReal cs sb [some (.val d), none] s = .ok (.rt r) s := by
  obtain ⟨y, k1, k2⟩ := k (rhD (leastP p rs) (formR p rs))
  unfold rdReal
  rw [sSeq_run, sIf_run, t, Res.bind_ok, if_pos rfl, sRet_run, bin_run, bin_run, e0, Res.bind_ok, real_mk w hp h, Res.bind_ok, k1, Res.bind_ok, e2, Res.bind_ok, k2 rfl]
  rfl
theorem real_pl {sb : List D → M S D} (x : Pl) (h : x.wf) (hp : ∀ p rs, x = .keep p rs ∨ x = .strike p rs → p ≤ 3000) : rdReal cs sb [some (.val x.mD), none] s = .ok (.rt x.real.D) s := by
  cases x with
  | shift n => kernel_rfl
  | frm n => kernel_rfl
  | unt n => kernel_rfl
  | keep p rs => exact real_core (d := Pl.mD (.keep p rs)) (r0 := .tup [.str "keep"]) (r2 := .tup []) (p := p) (rs := rs) h (hp p rs (.inl rfl)) (by kernel_rfl) (by kernel_rfl) (by kernel_rfl) (by kernel_rfl) fun x => ⟨.tup [.str "keep", x], by kernel_rfl, by rintro rfl; kernel_rfl⟩
  | strike p rs => exact real_core (d := Pl.mD (.strike p rs)) (r0 := .tup [.str "strike"]) (r2 := .tup []) (p := p) (rs := rs) h (hp p rs (.inr rfl)) (by kernel_rfl) (by kernel_rfl) (by kernel_rfl) (by kernel_rfl) fun x => ⟨.tup [.str "strike", x], by kernel_rfl, by rintro rfl; kernel_rfl⟩
/-- the rounds of a step are at most 3000 -/
def Stp.le3 (x : Stp) : Prop := ∀ z ∈ x.flat, ∀ p, z.rnd = some p → p ≤ 3000
theorem le3_of {base : Int} (hb : 1 ≤ base ∧ base ≤ 14) {x : Stp} (h : x.dv base) : x.le3 := fun z hz p hp => by
  have hd := flat_dv (xs := [x]) (base := base) (by simpa using h) z (by simpa [flatS] using hz)
  cases z with
  | pl y => cases y with
    | keep q rs => cases hp; have := rh_le hb hd; omega
    | strike q rs => cases hp; have := rh_le hb hd; omega
    | _ => cases hp
  | add q rs a b => cases hp; have := rh_le hb hd; omega
  | since n ys => cases hp
theorem real1_ok (x : Pl) (h : x.wf) (h3 : (Stp.pl x).le3) : (sem__law_real1 cs [x.mD] : M S D) s = .ok x.real.D s := by
  refine runB_rt ?_
  show rd__law_real1 cs [some (.val x.mD), none] s = _
  rw [rdReal1]
  exact real_pl x h fun p rs e => h3 (.pl x) List.mem_cons_self p (by rcases e with rfl | rfl <;> rfl)
theorem real2_ok (x : Stp) (h : x.wf) (h3 : x.le3) (hl : ∀ n ys, x = .since n ys → ys.length ≤ 1000) : (sem__law_real2 cs [x.mD] : M S D) s = .ok x.real.D s := by
  refine runB_rt ?_
  show rd__law_real2 cs [some (.val x.mD), none] s = _
  rw [rdReal2]
  cases x with
  | pl x => exact real_pl x h fun p rs e => h3 (.pl x) List.mem_cons_self p (by rcases e with rfl | rfl <;> rfl)
  | add p rs a b => exact real_core (d := Stp.mD (.add p rs a b)) (r0 := .tup [.str "add"]) (r2 := .tup [.int a, optD b]) (p := p) (rs := rs) h.1 (h3 (.add p rs a b) List.mem_cons_self p rfl) (by kernel_rfl) (by kernel_rfl) (by kernel_rfl) (by kernel_rfl) fun x => ⟨.tup [.str "add", x], by kernel_rfl, by rintro rfl; kernel_rfl⟩
  | since n ys =>
    have e1 : (cmp [1] (iSq (bin ixD (rVar 0) (rC (.int 2)))) (gNm 1) tYs (cal (sem__law_real1 cs) [] 1 (aCons (rVar 1) aNil)) : Env → M S D) [some (.val (Stp.mD (.since n ys))), none] s = .ok (.lst ((ys.map Pl.real).map Pl.D)) s := by
      have e0 : (iSq (bin ixD (rVar 0) (rC (.int 2))) : Env → M S (List D)) [some (.val (Stp.mD (.since n ys))), none] s = .ok (ys.map Pl.mD) s := rfl
      rw [cmp_run, e0, Res.bind_ok, if_pos (by rw [List.length_map]; exact sz1000 (hl n ys rfl)), calm_of (cmpL_TM Pl.mD (fun y => y.real.D) fun y hy => ?_), List.map_map]
      · rfl
      · exact cal1_of (rVar_run rfl) (real1_ok y (h.2.2 y hy) fun z hz p hp => h3 (.pl y) (List.mem_cons_of_mem _ (List.mem_map.mpr ⟨y, hy, rfl⟩)) p (by cases List.mem_singleton.mp hz; exact hp))
    have t1 : (asT (bin (inD false) (bin ixD (rVar 0) (rC (.int 0))) (tupD (aCons (rC (.str "keep")) (aCons (rC (.str "strike")) (aCons (rC (.str "add")) aNil))))) : Env → M S Bool) [some (.val (Stp.mD (.since n ys))), none] s = .ok false s := by kernel_rfl
    have t2 : (asT (bin (eqD false) (bin ixD (rVar 0) (rC (.int 0))) (rC (.str "since"))) : Env → M S Bool) [some (.val (Stp.mD (.since n ys))), none] s = .ok true s := by kernel_rfl
    have e2 : (slcD (rVar 0) oNone (oSome (rC (.int 2))) : Env → M S D) [some (.val (Stp.mD (.since n ys))), none] s = .ok (.tup [.str "since", .int n]) s := by kernel_rfl
    unfold rdReal
    rw [sSeq_run, skip_of t1, Res.bind_ok]
    show sSeq _ _ [some (.val (Stp.mD (.since n ys))), none] s = _
    rw [sSeq_run, sIf_run, t2, Res.bind_ok, if_pos rfl, sRet_run, bin_run, e2, Res.bind_ok, tupD_of (aCons_of (call1_of e1 rfl) rfl) (by simp)]
    rfl
theorem made_ok (xs : List Stp) (hf : (flatS xs).length ≤ 12) (hw : ∀ x ∈ xs, x.wf) (h3 : ∀ x ∈ xs, x.le3) (hb : roundS (reals xs) ≤ 84) : (sem__law_made cs [.lst (xs.map Stp.mD)] : M S D) s = .ok (scD (reals xs)) s := by
  have hl : xs.length ≤ 12 := by
    refine Nat.le_trans ?_ hf
    have : ∀ l : List Stp, l.length ≤ (flatS l).length := fun l => by
      induction l with
      | nil => exact Nat.le_refl _
      | cons x l ih =>
        unfold flatS at *
        rw [List.flatMap_cons, List.length_append, List.length_cons]
        have : 1 ≤ x.flat.length := by cases x <;> simp [Stp.flat]
        omega
    exact this xs
  refine runB_rt (ret_of ?_)
  have e1 : ∀ s, (cmp [1] (iSq (rVar 0)) (gNm 1) tYs (cal (sem__law_real2 cs) [] 1 (aCons (rVar 1) aNil)) : Env → M S D) [some (.val (.lst (xs.map Stp.mD))), none] s = .ok (.lst ((reals xs).map Stp.D)) s := fun s => by
    rw [cmp_run, iSq_of (rVar_run (d := .lst (xs.map Stp.mD)) rfl), Res.bind_ok, if_pos (by rw [List.length_map]; exact sz1000 (by omega)), calm_of (cmpL_TM Stp.mD (fun y => y.real.D) fun y hy => ?_), List.map_map]
    · rfl
    · exact cal1_of (rVar_run rfl) (real2_ok y (hw y hy) (h3 y hy) fun n ys e => by subst e; have := mem_flat_len hy; omega)
  exact Det.script (reals xs) (aCons_det e1 aNil_det) (by rw [flat_real, List.length_map]; exact hf) (reals_wf hw) hb s
/-! ### fates -/
/-! ### the round, the border -/
theorem lflat_for : ∀ (xs : List Stp) (a : Option Slot) (ds : List D) (e2 : Option Slot) (_ : ds.length + (flatS xs).length ≤ 10000), ∃ e2',
    forL (gNm 2) (sAsg (bin addD (bin addD (rVar 1) (lstD (aCons (rVar 2) aNil))) (iteE (asT (bin (eqD false) (bin ixD (rVar 2) (rC (.int 0))) (rC (.str "since")))) (bcl listD (aCons (bin ixD (rVar 2) (rC (.int 2))) aNil)) (lstD aNil))) (gNm 1)) (xs.map Stp.mD) [a, some (.val (.lst ds)), e2] s = .ok (.nx [a, some (.val (.lst (ds ++ (flatS xs).map Stp.mD))), e2']) s
  | [], a, ds, e2, _ => ⟨e2, by simp [flatS]; rfl⟩
  | x :: xs, a, ds, e2, h => by
    have ef : flatS (x :: xs) = x.flat ++ flatS xs := List.flatMap_cons
    rw [ef, List.length_append] at h
    obtain ⟨e2', ih⟩ := lflat_for xs a (ds ++ x.flat.map Stp.mD) (some (.val x.mD)) (by rw [List.length_append, List.length_map]; omega)
    refine ⟨e2', ?_⟩
    rw [ef, List.map_append, ← List.append_assoc]
    refine forL_cons (e := [a, some (.val (.lst (ds ++ x.flat.map Stp.mD))), some (.val x.mD)]) (s1 := s) ?_ ih
    have e1 : Det (S := S) (bin addD (rVar 1) (lstD (aCons (rVar 2) aNil))) [a, some (.val (.lst ds)), some (.val x.mD)] (.lst (ds ++ [x.mD])) := Det.add_lst (Det.var rfl) (lstD_det (aCons_det (Det.var rfl) aNil_det)) (by simp only [List.length_cons, List.length_nil]; omega)
    have e2 : ∀ r : List D, (r.length + 1 = x.flat.length ∧ x.flat.map Stp.mD = x.mD :: r) → Det (S := S) (iteE (asT (bin (eqD false) (bin ixD (rVar 2) (rC (.int 0))) (rC (.str "since")))) (bcl listD (aCons (bin ixD (rVar 2) (rC (.int 2))) aNil)) (lstD aNil)) [a, some (.val (.lst ds)), some (.val x.mD)] (.lst r) → (sAsg (bin addD (bin addD (rVar 1) (lstD (aCons (rVar 2) aNil))) (iteE (asT (bin (eqD false) (bin ixD (rVar 2) (rC (.int 0))) (rC (.str "since")))) (bcl listD (aCons (bin ixD (rVar 2) (rC (.int 2))) aNil)) (lstD aNil))) (gNm 1) : Env → M S Flw) [a, some (.val (.lst ds)), some (.val x.mD)] s = .ok (.nx [a, some (.val (.lst (ds ++ x.flat.map Stp.mD))), some (.val x.mD)]) s := fun r hr hd => by
      have := asg_of (i := 1) (Det.add_lst e1 hd (by rw [List.length_append]; simp only [List.length_cons, List.length_nil]; omega) s)
      rw [List.append_assoc, List.singleton_append, ← hr.2] at this
      exact this
    cases x with
    | pl y => cases y <;> exact e2 [] ⟨rfl, rfl⟩ fun s => by kernel_rfl
    | add p rs c b => exact e2 [] ⟨rfl, rfl⟩ fun s => by kernel_rfl
    | since n ys => exact e2 (ys.map Pl.mD) ⟨by simp [Stp.flat], by
        show Stp.mD (.since n ys) :: (ys.map Stp.pl).map Stp.mD = _
        rw [List.map_map]; rfl⟩ fun s => by kernel_rfl
theorem lflat_ok (xs : List Stp) (h : (flatS xs).length ≤ 1000) : (sem__law_flat [.lst (xs.map Stp.mD)] : M S D) s = .ok (.lst ((flatS xs).map Stp.mD)) s := by
  obtain ⟨e2, q⟩ := lflat_for (s := s) xs (some (.val (.lst (xs.map Stp.mD)))) [] none (by simp; omega)
  exact runB_rt (seq_of (e := [some (.val (.lst (xs.map Stp.mD))), some (.val (.lst [])), none]) (s1 := s) rfl (seq_of (for_of (s1 := s) (ds := xs.map Stp.mD) rfl q) (ret_of (rVar_run rfl))))
end
end DL
set_option Elab.async false
set_option linter.all false
set_option maxRecDepth 100000
set_option maxHeartbeats 4000000
set_option autoImplicit false
/-! borders, rounds and tables, as the laws reckon them -/
namespace DL
open PySem PySem.Spec PyProof.Rows L2 Rh
end DL
set_option Elab.async false
set_option linter.all false
set_option maxRecDepth 100000
set_option maxHeartbeats 4000000
set_option autoImplicit false
/-! tables of drawn scripts -/
namespace DL
open PySem PySem.Spec PyProof.Rows L2 Rh
theorem IsSts.bare {base : Int} {most : Nat} {xs : List Stp} (h : IsSts base most true xs) : IsSts base most true (xs.filter fun x => !x.isAd) where
  len := Nat.le_trans (List.length_filter_le _ _) h.len
  wf := fun x hx => h.wf x (List.mem_filter.mp hx).1
  dv := fun x hx => h.dv x (List.mem_filter.mp hx).1
  si := by
    rw [List.filter_filter]
    refine Nat.le_trans (List.Sublist.length_le ?_) h.si
    have : (xs.filter fun x => x.isSi && !x.isAd) = (xs.filter Stp.isSi).filter fun x => !x.isAd := by
      rw [List.filter_filter]
      apply List.filter_congr
      intro x _
      exact Bool.and_comm _ _
    rw [this]
    exact List.filter_sublist
  ad := by simp
theorem cao_det {S : Type} {env : Env} {cs : List Str} {τ υ : Env → M S D} {ys : List Stp} {d : Int} (hr : ∀ x ∈ ys, x.rd) (h0 : 0 ≤ d) (h : Det τ env (scD ys)) (h' : Det υ env (.int d)) : Det (cao "Script" (sem_Script___call__ cs) 2 τ (aCons υ aNil)) env (optD (fate ys (some d))) := fun s => by
  show (τ env s).bind _ = _
  rw [h s, Res.bind_ok]
  show (grd (Str.ofString "Script" = Str.ofString "Script") _ : M S D) s = _
  rw [grd_pos rfl]
  show ((aCons υ aNil) env s).bind _ = _
  rw [aCons_det h' aNil_det s, Res.bind_ok]
  show (grd ([D.int d].length + 1 = 2) (sem_Script___call__ cs [scD ys, .int d]) : M S D) s = _
  rw [grd_pos (show [D.int d].length + 1 = 2 from rfl)]
  exact call_ok ys hr d h0
end DL
set_option Elab.async false
set_option linter.all false
set_option maxRecDepth 100000
set_option maxHeartbeats 400000
set_option autoImplicit false
/-! new dates do not hang on how far one looks (plain) -/
namespace DL
open PySem PySem.Spec PyProof.Rows L2 Rh
/-- up to c the same days are taken, and the same offers up to t are told -/
structure Ag (c t : Int) (f f' : List Itm) : Prop where
  day : ∀ d, d ≤ c → (d ∈ f.filterMap (·.2.2) ↔ d ∈ f'.filterMap (·.2.2))
  fst : f.filter (fun y => decide (y.2.1 ≤ t)) = f'.filter fun y => decide (y.2.1 ≤ t)
theorem addDays_iff {p : Int} {rs : List Int} {a : Int} {b : Option Int} {w d : Int} : d ∈ addDays p rs a b w ↔ a ≤ d ∧ d ≤ w ∧ (∀ c, b = some c → d ≤ c) ∧ d % p ∈ rs := by
  refine ⟨addDays_mem, fun ⟨h1, h2, h3, h4⟩ => ?_⟩
  unfold addDays
  refine List.mem_filter.mpr ⟨?_, decide_eq_true h4⟩
  unfold rngI
  refine List.mem_map.mpr ⟨(d - a).toNat, List.mem_range.mpr ?_, by omega⟩
  cases b with
  | none => simp only; omega
  | some b =>
    have := h3 b rfl
    simp only
    split <;> omega
theorem rngI_cut (a m n : Int) (h : m ≤ n) : (rngI a (n + 1)).filter (fun d => decide (d ≤ m)) = rngI a (m + 1) := by
  unfold rngI
  rw [List.filter_map]
  by_cases ha : a ≤ m + 1
  · have e : List.range (n + 1 - a).toNat = List.range (m + 1 - a).toNat ++ (List.range ((n + 1 - a).toNat - (m + 1 - a).toNat)).map fun x => (m + 1 - a).toNat + x := by
      rw [← List.range_add]
      congr 1; omega
    rw [e, List.filter_append]
    have h1 : (List.range (m + 1 - a).toNat).filter ((fun d => decide (d ≤ m)) ∘ fun (i : Nat) => a + (i : Int)) = List.range (m + 1 - a).toNat := by
      refine List.filter_eq_self.mpr fun i hi => ?_
      have := List.mem_range.mp hi
      exact decide_eq_true (show a + (i : Int) ≤ m by omega)
    have h2 : ((List.range ((n + 1 - a).toNat - (m + 1 - a).toNat)).map fun x => (m + 1 - a).toNat + x).filter ((fun d => decide (d ≤ m)) ∘ fun (i : Nat) => a + (i : Int)) = [] := by
      refine List.filter_eq_nil_iff.mpr fun i hi => ?_
      obtain ⟨x, _, rfl⟩ := List.mem_map.mp hi
      simp only [Function.comp, decide_eq_true_eq]
      omega
    rw [h1, h2, List.append_nil]
  · have h0 : (m + 1 - a).toNat = 0 := by omega
    rw [h0]
    have h2 : (List.range (n + 1 - a).toNat).filter ((fun d => decide (d ≤ m)) ∘ fun (i : Nat) => a + (i : Int)) = [] := by
      refine List.filter_eq_nil_iff.mpr fun i hi => ?_
      simp only [Function.comp, decide_eq_true_eq]
      omega
    rw [h2]; rfl
theorem filter_comm {α : Type} (p q : α → Bool) (l : List α) : (l.filter p).filter q = (l.filter q).filter p := by
  rw [List.filter_filter, List.filter_filter]
  congr 1; funext x; exact Bool.and_comm _ _
theorem addDays_cut {p : Int} {rs : List Int} {a : Int} {b : Option Int} {w w' t : Int} (h : t ≤ w') (h' : t ≤ w) : (addDays p rs a b w).filter (fun d => decide (d ≤ t)) = (addDays p rs a b w').filter fun d => decide (d ≤ t) := by
  have cut : ∀ v, t ≤ v → (addDays p rs a b v).filter (fun d => decide (d ≤ t)) = (rngI a ((match b with
      | none => t
      | some b => if b < t then b else t) + 1)).filter fun d => decide (d % p ∈ rs) := fun v hv => by
    unfold addDays
    rw [filter_comm]
    congr 1
    cases b with
    | none => exact rngI_cut a t v hv
    | some b =>
      simp only
      by_cases hb : b < t
      · rw [if_pos hb, if_pos (show b < v by omega)]
        refine List.filter_eq_self.mpr fun d hd => ?_
        unfold rngI at hd
        obtain ⟨i, hi, rfl⟩ := List.mem_map.mp hd
        have := List.mem_range.mp hi
        exact decide_eq_true (by omega)
      · rw [if_neg hb]
        by_cases hv2 : b < v
        · rw [if_pos hv2]; exact rngI_cut a t b (by omega)
        · rw [if_neg hv2]; exact rngI_cut a t v hv
  rw [cut w h', cut w' h]
theorem move_day (x : Stp) (f : List Itm) (d : Int) : d ∈ (f.map fun y => ((y.1, y.2.1, y.2.2.bind x.go) : Itm)).filterMap (·.2.2) ↔ ∃ e, e ∈ f.filterMap (·.2.2) ∧ x.go e = some d := by
  simp only [List.mem_filterMap, List.mem_map]
  constructor
  · rintro ⟨y, ⟨z, hz, rfl⟩, h⟩
    simp only at h
    cases hq : z.2.2 with
    | none => rw [hq] at h; cases h
    | some e => rw [hq] at h; exact ⟨e, ⟨z, hz, hq⟩, h⟩
  · rintro ⟨e, ⟨z, hz, hq⟩, h⟩
    exact ⟨_, ⟨z, hz, rfl⟩, by simp only [hq]; exact h⟩
theorem Ag.step {c t w w' : Int} {f f' : List Itm} (h : Ag c t f f') (k : Nat) (x : Stp) (ht : t ≤ c) (hc : c ≤ w) (hc' : c ≤ w') : Ag (c - x.all) t (newStep w k x f) (newStep w' k x f') := by
  have ha := all_nn x
  have mv : Ag (c - x.all) t (f.map fun y => (y.1, y.2.1, y.2.2.bind x.go)) (f'.map fun y => (y.1, y.2.1, y.2.2.bind x.go)) := by
    refine ⟨fun d hd => ?_, ?_⟩
    · rw [move_day, move_day]
      have near : ∀ e, x.go e = some d → e ≤ c := fun e he => by
        have := stp_dist x e d he
        have := absI_nn (d - e)
        omega
      constructor
      · rintro ⟨e, he, g⟩; exact ⟨e, (h.day e (near e g)).mp he, g⟩
      · rintro ⟨e, he, g⟩; exact ⟨e, (h.day e (near e g)).mpr he, g⟩
    · rw [List.filter_map, List.filter_map]
      exact congrArg _ h.fst
  cases x with
  | pl q => exact mv
  | since n zs => exact mv
  | add p rs a b =>
    have e0 : c - Stp.all (.add p rs a b) = c := by show c - 0 = c; omega
    rw [e0]
    unfold newStep
    simp only
    refine ⟨fun d hd => ?_, ?_⟩
    · rw [List.filterMap_append, List.filterMap_append, List.mem_append, List.mem_append, h.day d hd]
      have ed : ∀ (v : Int) (g : List Itm), c ≤ v → (d ∈ (((addDays p rs a b v).filter fun d => !(decide (d ∈ g.filterMap (·.2.2)))).map fun d => ((k, d, some d) : Itm)).filterMap (·.2.2) ↔ (a ≤ d ∧ (∀ c, b = some c → d ≤ c) ∧ d % p ∈ rs) ∧ d ∉ g.filterMap (·.2.2)) := fun v g hv => by
        rw [List.filterMap_map]
        have : (fun d => ((k, d, some d) : Itm).2.2) = some := rfl
        show d ∈ List.filterMap some _ ↔ _
        rw [List.filterMap_some, List.mem_filter, addDays_iff]
        simp only [Bool.not_eq_true', decide_eq_false_iff_not]
        constructor
        · rintro ⟨⟨h1, h2, h3, h4⟩, h5⟩; exact ⟨⟨h1, h3, h4⟩, h5⟩
        · rintro ⟨⟨h1, h3, h4⟩, h5⟩; exact ⟨⟨h1, by omega, h3, h4⟩, h5⟩
      rw [ed w f hc, ed w' f' hc', h.day d hd]
    · rw [List.filter_append, List.filter_append, h.fst]
      congr 1
      rw [List.filter_map, List.filter_map]
      congr 1
      have e1 : ((fun y : Itm => decide (y.2.1 ≤ t)) ∘ fun d => ((k, d, some d) : Itm)) = fun d => decide (d ≤ t) := rfl
      rw [e1, filter_comm _ _ (addDays p rs a b w), filter_comm _ _ (addDays p rs a b w'), addDays_cut (w := w) (w' := w') (by omega) (by omega)]
      refine List.filter_congr fun d hd => ?_
      have hd : d ≤ t := of_decide_eq_true (List.mem_filter.mp hd).2
      rw [decide_eq_decide.mpr (h.day d (by omega))]
theorem Ag.go {t w w' : Int} : ∀ (xs : List Stp) (c : Int) (k : Nat) (f f' : List Itm), Ag c t f f' → t + sumL (xs.map Stp.all) ≤ c → c ≤ w → c ≤ w' → Ag (c - sumL (xs.map Stp.all)) t (newGo w k xs f) (newGo w' k xs f')
  | [], c, k, f, f', h, _, _, _ => by
    show Ag (c - 0) t f f'
    rw [Int.sub_zero]; exact h
  | x :: xs, c, k, f, f', h, ht, hc, hc' => by
    rw [List.map_cons, sumL_cons] at ht ⊢
    have ha := all_nn x
    have hn := sumA_nn xs
    have q := Ag.go (w := w) (w' := w') xs (c - x.all) (k + 1) _ _ (h.step k x (by omega) hc hc') (by omega) (by omega) (by omega)
    rw [show c - (x.all + sumL (xs.map Stp.all)) = c - x.all - sumL (xs.map Stp.all) by omega]
    exact q
end DL
set_option Elab.async false
set_option linter.all false
set_option maxRecDepth 100000
set_option maxHeartbeats 400000
set_option autoImplicit false
/-! stands in their order (plain) -/
namespace DL
open PySem PySem.Spec PyProof.Rows L2 Rh
def hd (v : List Int) : Int := v.headD 0
/-! ### all of them, in some order -/
/-! ### the dates' stands as pairs -/
/-! ### no adds -/
theorem fate_app (xs ys : List Stp) (o : Option Int) : fate (xs ++ ys) o = fate ys (fate xs o) := by
  induction xs generalizing o with
  | nil => rfl
  | cons x xs ih => exact ih _
end DL
set_option Elab.async false
set_option linter.all false
set_option maxRecDepth 100000
set_option maxHeartbeats 400000
set_option autoImplicit false
/-! dates drawn; drawn scripts as they are asked of stands -/
namespace DL
open PySem PySem.Spec PyProof.Rows L2 Rh
theorem IsSts.scr {base : Int} (hb : base ∈ bases) {most : Nat} (hm : most ≤ 8) {new : Bool} {xs : List Stp} (h : IsSts base most new xs) : Scr (reals xs) where
  few := by rw [flat_real, List.length_map]; have := h.flat; omega
  wf := reals_wf h.wf
  rnd := by
    have := round_real_le (bases_le hb).1 h.wf h.dv
    have := (bases_le hb).2
    omega
  spn := by
    rw [span_real]
    have := span_le h.dv
    have := h.flat
    omega
theorem IsSts.sub {base : Int} {most : Nat} {new new' : Bool} {xs ys : List Stp} (h : IsSts base most new xs) (hs : ys.Sublist xs) (ha : new' = false → ∀ x ∈ ys, x.isAd = false) : IsSts base most new' ys where
  len := Nat.le_trans hs.length_le h.len
  wf := fun x hx => h.wf x (hs.subset hx)
  dv := fun x hx => h.dv x (hs.subset hx)
  si := Nat.le_trans (hs.filter _).length_le h.si
  ad := ha
end DL
set_option Elab.async false
set_option linter.all false
set_option maxRecDepth 100000
set_option maxHeartbeats 400000
set_option autoImplicit false
/-! for laws over stands -/
namespace DL
open PySem PySem.Spec PyProof.Rows L2 Rh
section
variable {S : Type} {s : S} {cs : List Str} {env : Env} {ys : List Stp}
theorem add_ok2 {fs xs : List Stp} (h : Scr (fs ++ xs)) : (sem_Script___add__ cs [scD fs, scD xs] : M S D) s = .ok (scD (fs ++ xs)) s := by
  refine runB_rt ?_
  show rd_Script___add__ cs [some (.val (scD fs)), some (.val (scD xs))] s = _
  unfold rd_Script___add__
  have t : (isiD (tb_kit_own_Script cs) (scD xs) : M S D) s = .ok (.bl true) s := isi_of (t := Str.ofString "Script") rfl (tb_in (by decide))
  refine seq_skip (not_of (b := true) (asT_of (isi_of1 (s1 := s) rfl t))) (ret_of ?_)
  have ea : (aCons (bin addD (fldC "Script" "own_steps" (rVar 0)) (fldC "Script" "own_steps" (rVar 1))) aNil : Env → M S (List D)) [some (.val (scD fs)), some (.val (scD xs))] s = .ok [.tup ((fs ++ xs).map Stp.D)] s := by
    refine aCons_of (s1 := s) (bin_of (s1 := s) (s2 := s) (x := .tup (fs.map Stp.D)) (y := .tup (xs.map Stp.D)) rfl rfl ?_) rfl
    rw [List.map_append]
    have hl := len_flat (fs ++ xs)
    have := h.few
    rw [List.length_append] at hl
    show (grd ((fs.map Stp.D).length + (xs.map Stp.D).length ≤ sizeLine) _ : M S D) s = _
    rw [grd_pos]
    · rfl
    · rw [List.length_map, List.length_map]; exact sz6 (by omega)
  rw [mk_run, ea, Res.bind_ok]
  show ((sem_Script___init__ cs [.tup ((fs ++ xs).map Stp.D)] : M S (List (Str × D))) s).bind _ = _
  rw [init_okT (fs ++ xs) h.few h.wf h.rnd]; rfl
end
/-- scripts put together -/
theorem flat_app (fs xs : List Stp) : flatS (fs ++ xs) = flatS fs ++ flatS xs := List.flatMap_append
theorem rounds_app (fs xs : List Stp) : rounds (fs ++ xs) = rounds fs ++ rounds xs := by unfold rounds; rw [flat_app, List.filterMap_append]
theorem span_app (fs xs : List Stp) : spanS (fs ++ xs) = spanS fs + spanS xs := by unfold spanS; rw [flat_app, List.map_append, sumL_app]
theorem round_app {fs xs : List Stp} (hf : ∀ x ∈ fs, x.wf) (hx : ∀ x ∈ xs, x.wf) : roundS (fs ++ xs) ≤ lcmI (roundS fs) (roundS xs) := by
  have p1 := round_pos hf
  have p2 := round_pos hx
  have hp := lcmI_pos p1 p2
  refine Int.le_of_dvd (by omega) ?_
  unfold roundS
  refine lcmL_dvd _ 1 _ hp (by decide) ?_ (Int.one_dvd _) ?_
  · intro p hpm
    rw [rounds_app] at hpm
    rcases List.mem_append.mp hpm with h | h
    · exact rounds_pos hf p h
    · exact rounds_pos hx p h
  · intro p hpm
    rw [rounds_app] at hpm
    rcases List.mem_append.mp hpm with h | h
    · exact Int.dvd_trans ((round_divs hf) p h).2 (lcmI_dvd_left p1 p2)
    · exact Int.dvd_trans ((round_divs hx) p h).2 (lcmI_dvd_right p1 p2)
theorem Scr.app {fs xs : List Stp} (hf : ∀ x ∈ fs, x.wf) (hx : ∀ x ∈ xs, x.wf) (h1 : (flatS fs).length + (flatS xs).length ≤ 12) (h2 : lcmI (roundS fs) (roundS xs) ≤ 84) (h3 : spanS fs + spanS xs ≤ 1200) : Scr (fs ++ xs) where
  few := by rw [flat_app, List.length_append]; exact h1
  wf := fun x h => (List.mem_append.mp h).elim (hf x) (hx x)
  rnd := Int.le_trans (round_app hf hx) h2
  spn := by rw [span_app]; exact h3
end DL
set_option Elab.async false
set_option linter.all false
set_option maxRecDepth 100000
set_option maxHeartbeats 1000000
set_option autoImplicit false
/-! texts of numbers, and numbers read -/
namespace DL
open PySem PySem.Spec PyProof.Rows L2 Rh TL
section
variable {S : Type} {s : S} {cs : List Str} {env : Env}
/-! ### Det of texts -/
theorem skp {t : Env → M S Bool} {a b : Env → M S Flw} {r : Res S Flw} (h : t env s = .ok false s) (k : b env s = r) : sSeq (sIf t a sNx) b env s = r := seq_skip h k
theorem retS_of {τ : Env → M S D} {d : D} {s1 : S} (h : τ env s = .ok d s1) : sRet τ env s = .ok (.rt d) s1 := by rw [sRet_run, h]; rfl
end
end DL
set_option Elab.async false
set_option linter.all false
set_option maxRecDepth 100000
set_option maxHeartbeats 1000000
set_option autoImplicit false
/-! the texts of rhythms, steps and scripts, and what writes them -/
namespace DL
open PySem PySem.Spec PyProof.Rows L2 Rh TL
/-- least rhythms, small numbers -/
def Pl.can : Pl → Prop
  | .shift n => small n
  | .frm n => small n
  | .unt n => small n
  | .keep p rs => Can p rs ∧ p ≤ 3000
  | .strike p rs => Can p rs ∧ p ≤ 3000
def Stp.can : Stp → Prop
  | .pl x => x.can
  | .add p rs a b => (Can p rs ∧ p ≤ 3000) ∧ small a ∧ optOk b
  | .since n xs => small n ∧ xs ≠ [] ∧ xs.length ≤ 700 ∧ ∀ x ∈ xs, x.can
theorem Pl.can.wf {x : Pl} (h : x.can) : x.wf := by
  cases x with
  | keep p rs => exact h.1.wf
  | strike p rs => exact h.1.wf
  | _ => exact h
theorem Stp.can.wf {x : Stp} (h : x.can) : x.wf := by
  cases x with
  | pl x => exact Pl.can.wf h
  | add p rs a b => exact ⟨h.1.1.wf, h.2⟩
  | since n xs => exact ⟨h.1, h.2.1, fun x hx => (h.2.2.2 x hx).wf⟩
theorem small.lt {n : Int} (h : small n) : n.natAbs < 10000 := by obtain ⟨h1, h2⟩ := h; omega
end DL
set_option Elab.async false
set_option linter.all false
set_option maxRecDepth 100000
set_option maxHeartbeats 1000000
set_option autoImplicit false
/-! what writes texts: the program's and the law's own -/
namespace DL
open PySem PySem.Spec PyProof.Rows L2 Rh TL
end DL
set_option Elab.async false
set_option linter.all false
set_option maxRecDepth 100000
set_option maxHeartbeats 1000000
set_option autoImplicit false
/-! what reads texts: rhythms -/
namespace DL
open PySem PySem.Spec PyProof.Rows L2 Rh TL
/-- fine words of some length -/
def Wds (ws : List Str) : Prop := ∀ w ∈ ws, PyData.strOk w = true ∧ w.length ≤ 600
theorem Wds.sub {ws us : List Str} (h : Wds ws) (k : ∀ u ∈ us, u ∈ ws) : Wds us := fun u hu => h u (k u hu)
section
variable {S : Type} {s : S} {cs : List Str} {env : Env}
def rhOD : Option (Int × List Int) → D
  | none => .non
  | some q => rhD q.1 q.2
end
end DL
set_option Elab.async false
set_option linter.all false
set_option maxRecDepth 100000
set_option maxHeartbeats 1000000
set_option autoImplicit false
/-! what reads texts: plain steps and adds -/
namespace DL
open PySem PySem.Spec PyProof.Rows L2 Rh TL
/-! ### words of a text -/
/-! ### plain steps as they are read -/
inductive Ps where
  | nil | rh (k : Bool) (o : Option (Int × List Int)) | num (k : Nat) (x : Option Int) | ad (o : Option (Int × List Int)) (x b : Option Int)
def kw (k : Bool) : Str := if k then "strike" else "keep"
def nw : Nat → Str
  | 0 => "shift"
  | 1 => "from"
  | _ => "until"
def Ps.D : Ps → D
  | .nil => .tup []
  | .rh k o => .tup [.str (kw k), rhOD o]
  | .num k x => .tup [.str (nw k), optD x]
  | .ad o x b => .tup [.str "add", rhOD o, optD x, optD b]
end DL
set_option Elab.async false
set_option linter.all false
set_option maxRecDepth 100000
set_option maxHeartbeats 1000000
set_option autoImplicit false
/-! what reads texts: steps -/
namespace DL
open PySem PySem.Spec PyProof.Rows L2 Rh TL
end DL
set_option Elab.async false
set_option linter.all false
set_option maxRecDepth 100000
set_option maxHeartbeats 400000
set_option autoImplicit false
/-! more of what ends well (from L43Law) -/
namespace DL
open PySem PySem.Spec PyProof.Rows L2 Rh
theorem ixO_det {S : Type} {env : Env} {i : Nat} {ds : List D} {k : Int} {d : D} (hi : env[i]? = some (some (.own ds))) (h : atI ds k = some d) : Det (S := S) (ixO i (rC (.int k))) env d := fun s => by
  have e : ownD env i = some ds := by unfold ownD; rw [hi]
  show (match ownD env i with
    | some ds => do
      match ← (rC (.int k) : Env → M S D) env with
      | .int k => (match atI ds k with
        | some x => pure x
        | none => stk)
      | _ => stk
    | none => stk : M S D) s = _
  rw [e]
  show (match atI ds k with
    | some x => pure x
    | none => stk : M S D) s = _
  rw [h]; rfl
end DL
set_option Elab.async false
set_option linter.all false
set_option maxRecDepth 100000
set_option maxHeartbeats 400000
set_option autoImplicit false
/-! one by one: own lists (append, pop), looks at own lists -/
namespace DL
open PySem PySem.Spec PyProof.Rows L2
end DL
set_option Elab.async false
set_option linter.all false
set_option maxRecDepth 100000
set_option maxHeartbeats 1000000
set_option autoImplicit false
/-! what reads texts: steps and scripts, right ones -/
namespace DL
open PySem PySem.Spec PyProof.Rows L2 Rh TL
/-! ### no line ends within steps -/
end DL
set_option Elab.async false
set_option linter.all false
set_option maxRecDepth 100000
set_option maxHeartbeats 1000000
set_option autoImplicit false
/-! the law's own writing -/
namespace DL
open PySem PySem.Spec PyProof.Rows L2 Rh TL
end DL
set_option Elab.async false
set_option linter.all false
set_option maxRecDepth 100000
set_option maxHeartbeats 1000000
set_option autoImplicit false
/-! texts of scripts -/
namespace DL
open PySem PySem.Spec PyProof.Rows L2 Rh TL
end DL
set_option Elab.async false
set_option linter.all false
set_option maxRecDepth 100000
set_option maxHeartbeats 1000000
set_option autoImplicit false
/-! joined models, too many steps, great rounds -/
namespace DL
open PySem PySem.Spec PyProof.Rows L2 Rh
/-- models that are drawn, of any bases -/
structure Dn (xs : List Stp) : Prop where
  wf : ∀ x ∈ xs, x.wf
  dv : ∀ x ∈ xs, x.dv 360360
  le3 : ∀ x ∈ xs, x.le3
theorem Dn.app {xs ys : List Stp} (h : Dn xs) (k : Dn ys) : Dn (xs ++ ys) := ⟨fun x hx => (List.mem_append.mp hx).elim (h.wf x) (k.wf x), fun x hx => (List.mem_append.mp hx).elim (h.dv x) (k.dv x), fun x hx => (List.mem_append.mp hx).elim (h.le3 x) (k.le3 x)⟩
theorem Dn.sub {xs ys : List Stp} (h : Dn xs) (k : ∀ y ∈ ys, y ∈ xs) : Dn ys := ⟨fun x hx => h.wf x (k x hx), fun x hx => h.dv x (k x hx), fun x hx => h.le3 x (k x hx)⟩
theorem Dn.flat {xs : List Stp} (h : Dn xs) : ∀ z ∈ flatS xs, z.wf ∧ z.dv 360360 ∧ z.le3 := fun z hz => by
  refine ⟨flat_wf h.wf z hz, flat_dv h.dv z hz, fun u hu p hp => ?_⟩
  obtain ⟨x, hx, hz'⟩ := List.mem_flatMap.mp hz
  refine h.le3 x hx u ?_ p hp
  cases x with
  | pl y => cases List.mem_singleton.mp hz'; exact hu
  | add q rs a b => cases List.mem_singleton.mp hz'; exact hu
  | since n ys =>
    rcases List.mem_cons.mp hz' with rfl | hz'
    · exact hu
    · obtain ⟨y, hy, rfl⟩ := List.mem_map.mp hz'
      cases List.mem_singleton.mp hu
      exact List.mem_cons_of_mem _ (List.mem_map.mpr ⟨y, hy, rfl⟩)
section
variable {S : Type} {s s1 s2 : S} {env e : Env} {cs : List Str}
theorem gtI {S : Type} {env : Env} {τ υ : Env → M S D} {i j : Int} (h : Det τ env (.int i)) (h' : Det υ env (.int j)) : DetT (asT (bin gtD τ υ)) env (decide (j < i)) := DetT.as (Det.bin h h' fun s => rfl)
end
end DL
set_option Elab.async false
set_option linter.all false
set_option maxRecDepth 100000
set_option maxHeartbeats 1000000
set_option autoImplicit false
/-! what is drawn: steps with rhythms of any size -/
namespace DL
open PySem PySem.Spec PyProof.Rows L2 Rh
structure Sm (x : Stp) : Prop where
  wf : x.wf
  le3 : x.le3
  few : ∀ n ys, x = .since n ys → ys.length ≤ 10
theorem Sm.ofSince {base n : Int} (hb : 1 ≤ base ∧ base ≤ 14) {ys : List Pl} (hn : small n) (hne : ys ≠ []) (hl : ys.length ≤ 10) (hy : ∀ y ∈ ys, y.wf ∧ y.dv base) : Sm (.since n ys) := by
  refine ⟨⟨hn, hne, fun y h => (hy y h).1⟩, fun z hz p hp => ?_, fun m us e => by cases e; exact hl⟩
  rcases List.mem_cons.mp hz with rfl | hz
  · cases hp
  · obtain ⟨y, h, rfl⟩ := List.mem_map.mp hz
    exact le3_of hb (x := .pl y) (hy y h).2 (.pl y) List.mem_cons_self p hp
end DL
set_option Elab.async false
set_option linter.all false
set_option maxRecDepth 100000
set_option maxHeartbeats 1000000
set_option autoImplicit false
/-! equal steps and scripts; what is no text -/
namespace DL
open PySem PySem.Spec PyProof.Rows L2 Rh
section
variable {S : Type} {s s1 : S} {cs : List Str} {env : Env} {c : Str} {sem : List D → M S D}
theorem plT_ints : ∀ rs : List Int, plDL (rs.map .int) = true
  | [] => rfl
  | r :: rs => by
    show (plD (.int r) && plDL (rs.map .int)) = true
    rw [plT_ints rs]; rfl
theorem dpt_opt (o : Option Int) : depX (optD o) = 0 := by cases o <;> rfl
theorem dpt_pl (x : Pl) : depX x.D ≤ 1 := by cases x <;> exact Nat.le_refl _
theorem dpt_map {T : Type} {f : T → D} {k : Nat} (h : ∀ x, depX (f x) ≤ k) : ∀ xs : List T, depXL (xs.map f) ≤ k
  | [] => Nat.zero_le _
  | x :: xs => Nat.max_le.mpr ⟨h x, dpt_map h xs⟩
theorem dpt_stp (x : Stp) : depX x.D ≤ 3 := by
  cases x with
  | pl y => exact Nat.le_trans (dpt_pl y) (by decide)
  | add p rs a b =>
    show max 0 (max 0 (max 0 (max (depX (optD b)) 0))) + 1 ≤ 3
    rw [dpt_opt]; decide
  | since n ys =>
    have := dpt_map dpt_pl ys
    show max 0 (max 0 (max (depXL (ys.map Pl.D) + 1) 0)) + 1 ≤ 3
    omega
/-! ### equal scripts -/
theorem scT (ys : List Stp) : (isiD (tb_kit_own_Script cs) (scD ys) : M S D) s = .ok (.bl true) s := isi_of (t := "Script") rfl (tb_in (by decide))
/-! ### what is no text -/
end
end DL
set_option Elab.async false
set_option linter.all false
set_option maxRecDepth 100000
set_option maxHeartbeats 1000000
set_option autoImplicit false
/-! == of steps, equal or not -/
namespace DL
open PySem PySem.Spec PyProof.Rows L2 Rh
section
variable {S : Type} {s s1 : S} {cs : List Str} {env : Env} {c : Str} {sem : List D → M S D}
def EqN (c : Str) (sem : List D → M S D) (s : S) (d e : D) : Prop := ∃ b, eqvG c sem s d e = some b ∧ (b = true ↔ d = e)
def EqNL (c : Str) (sem : List D → M S D) (s : S) (ds es : List D) : Prop := ∃ b, eqvL c sem s ds es = some b ∧ (b = true ↔ ds = es)
theorem EqNL.cons {d e : D} {ds es : List D} (h : EqN c sem s d e) (k : d = e → EqNL c sem s ds es) : EqNL c sem s (d :: ds) (e :: es) := by
  obtain ⟨b, h1, h2⟩ := h
  cases b with
  | true =>
    have e1 := h2.mp rfl
    obtain ⟨b', k1, k2⟩ := k e1
    refine ⟨b', ?_, by rw [k2, e1]; simp⟩
    show (match eqvG c sem s d e with
      | some true => eqvL c sem s ds es
      | some false => some false
      | none => none) = _
    rw [h1]; exact k1
  | false =>
    refine ⟨false, ?_, by
      refine ⟨fun z => (nomatch z), fun z => ?_⟩
      exact h2.mpr (List.cons.inj z).1⟩
    show (match eqvG c sem s d e with
      | some true => eqvL c sem s ds es
      | some false => some false
      | none => none) = _
    rw [h1]
theorem EqNL.nil : EqNL c sem s [] [] := ⟨true, rfl, by simp⟩
theorem EqNL.map {T : Type} {f : T → D} (h : ∀ x y, EqN c sem s (f x) (f y)) : ∀ xs ys : List T, EqNL c sem s (xs.map f) (ys.map f)
  | [], [] => EqNL.nil
  | [], _ :: _ => ⟨false, rfl, by simp⟩
  | _ :: _, [] => ⟨false, rfl, by simp⟩
  | x :: xs, y :: ys => EqNL.cons (h x y) fun _ => EqNL.map h xs ys
theorem EqN.tup {ds es : List D} (h : EqNL c sem s ds es) : EqN c sem s (.tup ds) (.tup es) := by
  obtain ⟨b, h1, h2⟩ := h
  exact ⟨b, h1, by rw [h2]; simp⟩
theorem EqN.str (a b : Str) : EqN c sem s (.str a) (.str b) := ⟨a == b, rfl, by simp⟩
theorem EqN.int (a b : Int) : EqN c sem s (.int a) (.int b) := ⟨a == b, rfl, by simp⟩
theorem EqN.opt (a b : Option Int) : EqN c sem s (optD a) (optD b) := by
  cases a with
  | none => cases b with
    | none => exact ⟨true, rfl, by simp⟩
    | some j => exact ⟨false, rfl, by simp [optD]⟩
  | some i => cases b with
    | none => exact ⟨false, rfl, by simp [optD]⟩
    | some j => exact EqN.int i j
open Classical in
theorem EqN.rh (hc : ("Rhythm" : Str) ∈ cs) (p : Int) (rs : List Int) (q : Int) (ts : List Int) : EqN "Rhythm" (sem_Rhythm___eq__ cs) s (rhD p rs) (rhD q ts) := by
  have hp : ∀ (p : Int) (rs : List Int), plDF [("own_form", D.tup [.int p, .tup (rs.map .int)])] = true := fun p rs => by
    show ((plD (.int p) && (plDL (rs.map .int) && true)) && true) = true
    rw [plT_ints]; rfl
  have he := sem_eq (S := S) (s := s) (p := p) (q := q) (rs := rs) (ts := ts) hc
  have hi : [((Str.ofString "own_form" : Str), D.tup [.int p, .tup (rs.map .int)])] = [(Str.ofString "own_form", D.tup [.int q, .tup (ts.map .int)])] ↔ p = q ∧ rs = ts := by
    constructor
    · intro z
      have z := (Prod.mk.inj (List.cons.inj z).1).2
      have z := D.tup.inj z
      have z1 := D.int.inj (List.cons.inj z).1
      have z2 := D.tup.inj (List.cons.inj (List.cons.inj z).2).1
      exact ⟨z1, List.map_inj_right (fun a b z => by cases z; rfl) |>.mp z2⟩
    · rintro ⟨rfl, rfl⟩; rfl
  have hd : decide ([((Str.ofString "own_form" : Str), D.tup [.int p, .tup (rs.map .int)])] = [(Str.ofString "own_form", D.tup [.int q, .tup (ts.map .int)])]) = decide (p = q ∧ rs = ts) := decide_eq_decide.mpr hi
  refine ⟨decide (p = q ∧ rs = ts), ?_, ?_⟩
  · show (if ("Rhythm" : Str) = "Rhythm" ∧ ("Rhythm" : Str) = "Rhythm" then eqvI "Rhythm" (sem_Rhythm___eq__ cs) s [("own_form", .tup [.int p, .tup (rs.map .int)])] [("own_form", .tup [.int q, .tup (ts.map .int)])] else none) = _
    rw [if_pos ⟨rfl, rfl⟩]
    unfold eqvI
    rw [if_pos ⟨hp p rs, hp q ts, by rw [hd]; exact he.trans (by congr)⟩, hd]
  · rw [decide_eq_true_eq]
    constructor
    · rintro ⟨rfl, rfl⟩; rfl
    · intro z
      have z : D.ins "Rhythm" [("own_form", D.tup [.int p, .tup (rs.map .int)])] = D.ins "Rhythm" [("own_form", D.tup [.int q, .tup (ts.map .int)])] := z
      exact hi.mp (D.ins.inj z).2
theorem EqN.words {a b : Str} {ds es : List D} (h : a = b → EqNL c sem s ds es) : EqN c sem s (.tup (.str a :: ds)) (.tup (.str b :: es)) := EqN.tup (EqNL.cons (EqN.str a b) fun z => h (D.str.inj z))
theorem wd_ne {P : Prop} {a b : Str} (h : decide (a = b) = false) : a = b → P := fun z => by rw [decide_eq_true z] at h; cases h
theorem EqN.pl (hc : ("Rhythm" : Str) ∈ cs) (x y : Pl) : EqN "Rhythm" (sem_Rhythm___eq__ cs) s x.D y.D := by
  cases x <;> cases y <;> first
    | exact EqN.words fun _ => EqNL.cons (EqN.int _ _) fun _ => EqNL.nil
    | exact EqN.words fun _ => EqNL.cons (EqN.rh hc _ _ _ _) fun _ => EqNL.nil
    | exact EqN.words (wd_ne (by decide +kernel))
theorem EqN.stp (hc : ("Rhythm" : Str) ∈ cs) (x y : Stp) : EqN "Rhythm" (sem_Rhythm___eq__ cs) s x.D y.D := by
  cases x with
  | pl x => cases y with
    | pl y => exact EqN.pl hc x y
    | add p rs a b => cases x <;> exact EqN.words (wd_ne (by decide +kernel))
    | since n ys => cases x <;> exact EqN.words (wd_ne (by decide +kernel))
  | add p rs a b => cases y with
    | pl y => cases y <;> exact EqN.words (wd_ne (by decide +kernel))
    | add q ts a' b' => exact EqN.words fun _ => EqNL.cons (EqN.rh hc _ _ _ _) fun _ => EqNL.cons (EqN.int _ _) fun _ => EqNL.cons (EqN.opt _ _) fun _ => EqNL.nil
    | since n ys => exact EqN.words (wd_ne (by decide +kernel))
  | since n xs => cases y with
    | pl y => cases y <;> exact EqN.words (wd_ne (by decide +kernel))
    | add q ts a' b' => exact EqN.words (wd_ne (by decide +kernel))
    | since m ys => exact EqN.words fun _ => EqNL.cons (EqN.int _ _) fun _ => EqNL.cons (EqN.tup (EqNL.map (EqN.pl hc) xs ys)) fun _ => EqNL.nil
theorem eqG_sc (hc : ("Rhythm" : Str) ∈ cs) (xs ys : List Stp) : ∃ b : Bool, (eqG "Rhythm" (sem_Rhythm___eq__ cs) 5 false (.tup (xs.map Stp.D)) (.tup (ys.map Stp.D)) : M S D) s = .ok (.bl b) s ∧ (b = true ↔ xs.map Stp.D = ys.map Stp.D) := by
  obtain ⟨b, h1, h2⟩ := EqN.tup (EqNL.map (c := "Rhythm") (sem := sem_Rhythm___eq__ cs) (s := s) (EqN.stp hc) xs ys)
  refine ⟨b, ?_, h2.trans (by simp)⟩
  unfold eqG
  rw [h1]
  show (if depX (.tup (xs.map Stp.D)) ≤ 5 + 1 ∧ isSq (.tup (xs.map Stp.D)) = true then Res.ok (D.bl b) s else .stk) = _
  rw [if_pos ⟨by have := dpt_map dpt_stp xs; show depXL (xs.map Stp.D) + 1 ≤ 6; omega, rfl⟩]
end
end DL
set_option Elab.async false
set_option linter.all false
set_option maxRecDepth 100000
set_option maxHeartbeats 1000000
set_option autoImplicit false
/-! more of texts: equal lists of texts; texts of scripts put together, parted; equal scripts -/
namespace DL
open PySem PySem.Spec PyProof.Rows L2 Rh TL
/-- plain data that can be compared -/
def Lay (d : D) (dep : Nat) : Prop := ∃ a, pd d = some a ∧ a.canLay0 = true ∧ a.depth ≤ dep
def LayL (ds : List D) (dep : Nat) : Prop := ∃ as, pdL ds = some as ∧ PyData.canLayAll0 as = true ∧ PyData.depthAll as ≤ dep
theorem Lay.str {x : Str} (h : PyData.strOk x = true) {k : Nat} : Lay (.str x) k := ⟨.str x, rfl, h, Nat.zero_le _⟩
theorem LayL.map {T : Type} {f : T → D} {k : Nat} : ∀ {xs : List T}, (∀ x ∈ xs, Lay (f x) k) → LayL (xs.map f) k
  | [], _ => ⟨[], rfl, rfl, Nat.zero_le _⟩
  | x :: xs, h => by
    obtain ⟨a, h1, h2, h3⟩ := h x List.mem_cons_self
    obtain ⟨as, k1, k2, k3⟩ := LayL.map (f := f) (k := k) fun y hy => h y (List.mem_cons_of_mem _ hy)
    refine ⟨a :: as, ?_, ?_, ?_⟩
    · rw [List.map_cons]
      simp only [pdL, h1, k1]
    · simp only [PyData.canLayAll0, h2, k2, Bool.and_self]
    · show max a.depth (PyData.depthAll as) ≤ k
      omega
theorem Lay.lst {ds : List D} {k : Nat} (h : LayL ds k) : Lay (.lst ds) (k + 1) := by
  obtain ⟨as, h1, h2, h3⟩ := h
  refine ⟨.list as, ?_, h2, ?_⟩
  · show (pdL ds).map PyData.list = _
    rw [h1]; rfl
  · show PyData.depthAll as + 1 ≤ k + 1
    omega
section
variable {S : Type} {s : S} {env : Env} {cs : List Str}
theorem Lay.eq {d : D} {k : Nat} (h : Lay d k) (hk : k ≤ 64) {neg : Bool} : (eqD neg d d : M S D) s = .ok (.bl (!neg)) s := by
  obtain ⟨x, h1, h2, h3⟩ := h
  have hs : SeqAt.shaped x = true := by
    unfold SeqAt.shaped
    rw [h2, decide_eq_true (by omega)]; rfl
  have e : eqP d d = some true := by
    unfold eqP
    rw [h1]
    show (if _ then some _ else none) = _
    rw [if_pos ⟨hs, hs⟩, SeqAt.eqv_refl x h2]
  unfold eqD; rw [e]; cases neg <;> rfl
/-! ### texts put together -/
/-- == of scripts, equal or not -/
theorem eqS_run (hc : ("Rhythm" : Str) ∈ cs) (xs ys : List Stp) {rd : Env → M S Flw} (hr : rd = sRet (andV (isi (tb_kit_own_Script cs) (rVar 1)) (bin (eqG "Rhythm" (sem_Rhythm___eq__ cs) 5 false) (fldC "Script" "own_steps" (rVar 0)) (fldC "Script" "own_steps" (rVar 1))))) : ∃ b : Bool, (runB rd ["self", "other"] [scD xs, scD ys] : M S D) s = .ok (.bl b) s ∧ (b = true ↔ xs.map Stp.D = ys.map Stp.D) := by
  obtain ⟨b, h1, h2⟩ := eqG_sc (S := S) (s := s) hc xs ys
  refine ⟨b, runB_rt ?_, h2⟩
  subst hr
  have e0 : (fldC "Script" "own_steps" (rVar 0) : Env → M S D) [some (.val (scD xs)), some (.val (scD ys))] s = .ok (.tup (xs.map Stp.D)) s := by kernel_rfl
  have e1 : (fldC "Script" "own_steps" (rVar 1) : Env → M S D) [some (.val (scD xs)), some (.val (scD ys))] s = .ok (.tup (ys.map Stp.D)) s := by kernel_rfl
  have ei : (isi (tb_kit_own_Script cs) (rVar 1) : Env → M S D) [some (.val (scD xs)), some (.val (scD ys))] s = .ok (.bl true) s := isi_of1 (x := scD ys) (s1 := s) (rVar_run rfl) (scT ys)
  refine ret_of ?_
  show andV _ _ [some (.val (scD xs)), some (.val (scD ys))] s = _
  refine andV_run.trans ?_
  rw [ei, Res.bind_ok, truD_bl, Res.bind_ok, if_pos rfl]
  exact bin_of e0 e1 h1
end
end DL
set_option Elab.async false
set_option linter.all false
set_option maxRecDepth 100000
set_option maxHeartbeats 400000
set_option autoImplicit false
/-! models of scripts: rounds that divide L, at most n steps, those within others counted -/
namespace DL
open PySem PySem.Spec PyProof.Rows L2 Rh
theorem Pl.dv_mono {a b : Int} (h : a ∣ b) : ∀ {x : Pl}, x.dv a → x.dv b
  | .shift _, d => d
  | .frm _, _ => trivial
  | .unt _, _ => trivial
  | .keep _ _, d => Int.dvd_trans d h
  | .strike _ _, d => Int.dvd_trans d h
theorem Stp.dv_mono {a b : Int} (h : a ∣ b) : ∀ {x : Stp}, x.dv a → x.dv b
  | .pl _, d => Pl.dv_mono h d
  | .add _ _ _ _, d => Int.dvd_trans d h
  | .since _ _, ⟨l, d⟩ => ⟨l, fun y hy => Pl.dv_mono h (d y hy)⟩
structure Ms (L : Int) (n : Nat) (xs : List Stp) : Prop where
  wf : ∀ x ∈ xs, x.wf
  dv : ∀ x ∈ xs, x.dv L
  fl : (flatS xs).length ≤ n
theorem IsSts.ms {base : Int} {most : Nat} {new : Bool} {xs : List Stp} (h : IsSts base most new xs) {L : Int} (hd : base ∣ L) : Ms L (most + 4) xs := ⟨h.wf, fun x hx => Stp.dv_mono hd (h.dv x hx), h.flat⟩
theorem flat_one (x : Stp) : flatS [x] = x.flat := by simp [flatS]
theorem flat_subl {ys xs : List Stp} (h : ys.Sublist xs) : (flatS ys).length ≤ (flatS xs).length := by
  induction h with
  | slnil => exact Nat.le_refl _
  | cons a _ ih =>
    show _ ≤ (a.flat ++ flatS _).length
    rw [List.length_append]; omega
  | cons_cons a _ ih =>
    show (a.flat ++ flatS _).length ≤ (a.flat ++ flatS _).length
    rw [List.length_append, List.length_append]; omega
theorem flat_app' (fs xs : List Stp) : flatS (fs ++ xs) = flatS fs ++ flatS xs := List.flatMap_append
section
variable {L : Int} {n : Nat} {xs ys : List Stp}
theorem Ms.app {m : Nat} (h : Ms L n xs) (k : Ms L m ys) : Ms L (n + m) (xs ++ ys) where
  wf := fun x hx => (List.mem_append.mp hx).elim (h.wf x) (k.wf x)
  dv := fun x hx => (List.mem_append.mp hx).elim (h.dv x) (k.dv x)
  fl := by rw [flat_app', List.length_append]; have := h.fl; have := k.fl; omega
theorem Ms.one {x : Stp} (hw : x.wf) (hd : x.dv L) {m : Nat} (hf : x.flat.length ≤ m) : Ms L m [x] := ⟨fun y hy => by cases List.mem_singleton.mp hy; exact hw, fun y hy => by cases List.mem_singleton.mp hy; exact hd, by rw [flat_one]; exact hf⟩
theorem Ms.mono {m : Nat} (h : Ms L n xs) (hm : n ≤ m) : Ms L m xs := ⟨h.wf, h.dv, Nat.le_trans h.fl hm⟩
theorem Ms.sub (h : Ms L n xs) (hs : ys.Sublist xs) : Ms L n ys := ⟨fun x hx => h.wf x (hs.subset hx), fun x hx => h.dv x (hs.subset hx), Nat.le_trans (flat_subl hs) h.fl⟩
theorem Ms.rnd (h : Ms L n xs) (hL : 1 ≤ L) : roundS (reals xs) ≤ L := round_real_le hL h.wf h.dv
theorem Ms.scr (h : Ms L n xs) (hn : n ≤ 12) (hL : 1 ≤ L ∧ L ≤ 84) : Scr (reals xs) where
  few := by rw [flat_real, List.length_map]; have := h.fl; omega
  wf := reals_wf h.wf
  rnd := by have := h.rnd hL.1; omega
  spn := by rw [span_real]; have := span_le h.dv; have := h.fl; omega
theorem le3_dv (hL : 1 ≤ L ∧ L ≤ 3000) {x : Stp} (h : x.dv L) : x.le3 := fun z hz p hp => by
  have hd := flat_dv (xs := [x]) (base := L) (by simpa using h) z (by simpa [flatS] using hz)
  have le : ∀ q : Int, q ∣ L → q ≤ 3000 := fun q hq => by have := Int.le_of_dvd (by omega) hq; omega
  cases z with
  | pl y => cases y with
    | keep q rs => cases hp; exact le _ hd
    | strike q rs => cases hp; exact le _ hd
    | _ => cases hp
  | add q rs a b => cases hp; exact le _ hd
  | since n ys => cases hp
theorem Ms.made (h : Ms L n xs) (hn : n ≤ 12) (hL : 1 ≤ L ∧ L ≤ 84) {S : Type} {s : S} {cs : List Str} : (sem__law_made cs [.lst (xs.map Stp.mD)] : M S D) s = .ok (scD (reals xs)) s :=
  made_ok xs (by have := h.fl; omega) h.wf (fun x hx => le3_dv ⟨hL.1, by omega⟩ (h.dv x hx)) (by have := h.rnd hL.1; omega)
end
end DL
set_option Elab.async false
set_option linter.all false
set_option maxRecDepth 100000
set_option maxHeartbeats 400000
set_option autoImplicit false
/-! which days are taken, without an end; offers repeat far out (plain) -/
namespace DL
open PySem PySem.Spec PyProof.Rows L2 Rh
/-! ### far out all repeats -/
end DL
set_option Elab.async false
set_option linter.all false
set_option maxRecDepth 100000
set_option maxHeartbeats 400000
set_option autoImplicit false
/-! offers and what blocks them (plain) -/
namespace DL
open PySem PySem.Spec PyProof.Rows L2 Rh
end DL
set_option Elab.async false
set_option linter.all false
set_option maxRecDepth 100000
set_option maxHeartbeats 400000
set_option autoImplicit false
/-! offers: their keys are different, their ends; new stands by offers (plain) -/
namespace DL
open PySem PySem.Spec PyProof.Rows L2 Rh
end DL
set_option Elab.async false
set_option linter.all false
set_option maxRecDepth 100000
set_option maxHeartbeats 400000
set_option autoImplicit false
/-! the laws' own walk of all dates and new ones tells the program's stands (plain) -/
namespace DL
open PySem PySem.Spec PyProof.Rows L2 Rh
end DL
set_option Elab.async false
set_option linter.all false
set_option maxRecDepth 100000
set_option maxHeartbeats 400000
set_option autoImplicit false
/-! far out the new stands repeat with the round (plain) -/
namespace DL
open PySem PySem.Spec PyProof.Rows L2 Rh
theorem fate_near {xs : List Stp} {a b : Int} (h : fate xs (some a) = some b) : a - spanS xs ≤ b ∧ b ≤ a + spanS xs := by
  have h1 := gos_dist stp_dist xs a b h
  rw [← span_all] at h1
  have := absI_nn (b - a)
  omega
end DL
set_option Elab.async false
set_option linter.all false
set_option maxRecDepth 100000
set_option maxHeartbeats 1000000
set_option autoImplicit false
/-! the law k11: fates, scripts put together -/
namespace DL
open PySem PySem.Spec PyProof.Rows L2 Rh
section
variable {cs : List Str} {S : Type} {env : Env}
/-- the fates of a hundred and thirty dates -/
def fo (A : List Stp) : List (Option Int) := (rngI 0 130).map fun d => fate A (some d)
theorem fates_ok {A : List Stp} (hw : ∀ x ∈ A, x.wf) (s : S) : sem__law_fates_of cs [scD A] s = .ok (.lst ((fo A).map optD)) s := by
  refine runB_rt (retS_of ?_)
  have e0 : (iR1 (aCons (rC (.int 130)) aNil) : Env → M S (List D)) [va (scD A), none] s = .ok ((rngI 0 130).map .int) s := by
    rw [← rngD_eq]; exact Det.rng (S := S) (j := 130) Det.c (by decide) s
  have : (fo A).map optD = (rngI 0 130).map fun d => optD (fate A (some d)) := by unfold fo; rw [List.map_map]; rfl
  rw [this]
  refine cmp_of (s1 := s) (s2 := s) e0 (by rw [List.length_map, rngI_length]; exact sz6 (by decide)) ?_
  refine cmpL_TM D.int _ fun d hd => cao_det (fun x hx => (hw x hx).rd) (mem_rngI.mp hd).1 (Det.var rfl) (Det.var rfl) s
theorem fo_pln {A : List Stp} (hs : spanS A ≤ 1000000) : ∃ k, Pln (.lst ((fo A).map optD)) 1 k := by
  refine ⟨_, Pln.lst (PlnL.map (f := optD) (xs := fo A) (a := 0) (w := 40) fun o ho => Pln.opt fun v e => ?_)⟩
  obtain ⟨d, hd, rfl⟩ := List.mem_map.mp ho
  have := mem_rngI.mp hd
  have := fate_near e
  omega
/-- the same fates -/
theorem fo_ne {A B : List Stp} {τ υ : Env → M S D} (ha : ∀ x ∈ A, x.wf) (hb : ∀ x ∈ B, x.wf) (hs : spanS A ≤ 1000000 ∨ spanS B ≤ 1000000) (h1 : Det τ env (scD A)) (h2 : Det υ env (scD B)) (h : ∀ d, 0 ≤ d → fate A (some d) = fate B (some d)) : DetT (asT (bin (eqD true) (cal (sem__law_fates_of cs) [] 1 (aCons τ aNil)) (cal (sem__law_fates_of cs) [] 1 (aCons υ aNil)))) env false := by
  have e : fo B = fo A := List.map_congr_left fun d hd => (h d (mem_rngI.mp hd).1).symm
  obtain ⟨k, p⟩ : ∃ k, Pln (.lst ((fo A).map optD)) 1 k := by
    rcases hs with hs | hs
    · exact fo_pln hs
    · rw [← e]; exact fo_pln hs
  refine DetT.neSelf p (by decide) (Det.cal1 h1 fun s => fates_ok ha s) (Det.cal1 h2 fun s => ?_)
  rw [← e]; exact fates_ok hb s
theorem eqs11 {s : S} (hc : ("Rhythm" : Str) ∈ cs) (ys : List Stp) : (sem_Script___eq__ cs [scD ys, scD ys] : M S D) s = .ok (.bl true) s := by
  obtain ⟨b, h1, h2⟩ := eqS_run (S := S) (s := s) hc ys ys rfl
  rw [h2.mpr rfl] at h1
  exact h1
theorem neq11 {s : S} (hc : ("Rhythm" : Str) ∈ cs) (ys : List Stp) : (orD (neOwn "Script" (sem_Script___eq__ cs)) (eqD true) (fun d _ => isIns d) (scD ys) (scD ys) : M S D) s = .ok (.bl false) s := by
  show (grd (("Script" : Str) = "Script" ∧ ("Script" : Str) = "Script") (do onBl (fun b => pure (.bl (!b))) (← calmM (sem_Script___eq__ cs [scD ys, scD ys]))) : M S D) s = _
  rw [grd_pos ⟨rfl, rfl⟩]
  show ((calmM (sem_Script___eq__ cs [scD ys, scD ys]) s).bind _) = _
  rw [calm_of (eqs11 hc ys)]; rfl
theorem det_addSc {A B : List Stp} (h : Scr (A ++ B)) {τ υ : Env → M S D} (h1 : Det τ env (scD A)) (h2 : Det υ env (scD B)) : Det (bin (opOwn "Script" (sem_Script___add__ cs)) τ υ) env (scD (A ++ B)) := Det.bin h1 h2 fun s => by
  show (grd (("Script" : Str) = "Script" ∧ ("Script" : Str) = "Script") (sem_Script___add__ cs [scD A, scD B]) : M S D) s = _
  rw [grd_pos ⟨rfl, rfl⟩]
  exact add_ok2 h
/-! ### scripts of one or two plain steps -/
theorem round84 {xs : List Stp} (h : ∀ p ∈ rounds xs, 1 ≤ p ∧ p ∣ 84) : roundS xs ≤ 84 := Int.le_of_dvd (by decide) (lcmL_dvd _ 1 84 (by decide) (by decide) (fun p hp => (h p hp).1) (Int.one_dvd _) fun p hp => (h p hp).2)
/-- rhythms of a plain step divide 84 -/
def Pl.ok84 (x : Pl) : Prop := x.wf ∧ ∀ p, (Stp.pl x).rnd = some p → 1 ≤ p ∧ p ∣ 84
theorem pls_flat (us : List Pl) : flatS (us.map Stp.pl) = us.map Stp.pl := by
  induction us with
  | nil => rfl
  | cons u us ih =>
    show (Stp.pl u).flat ++ flatS (us.map Stp.pl) = _
    rw [ih]; rfl
theorem pls_round {us : List Pl} (h : ∀ x ∈ us, x.ok84) : roundS (us.map Stp.pl) ≤ 84 := round84 fun p hp => by
  unfold rounds at hp
  rw [pls_flat] at hp
  obtain ⟨z, hz, e⟩ := List.mem_filterMap.mp hp
  obtain ⟨x, hx, rfl⟩ := List.mem_map.mp hz
  exact (h x hx).2 p e
theorem pls_wf {us : List Pl} (h : ∀ x ∈ us, x.ok84) : ∀ y ∈ us.map Stp.pl, y.wf := fun y hy => by
  obtain ⟨x, hx, rfl⟩ := List.mem_map.mp hy
  exact (h x hx).1
theorem det_scs {α : Env → M S (List D)} {us : List Pl} (h : ∀ x ∈ us, x.ok84) (hl : us.length ≤ 12) (ha : ∀ s, α env s = .ok (us.map Pl.D) s) : Det (mk "Script" (sem_Script___init__ cs) [] 1 (aCons (lstD α) aNil)) env (scD (us.map Stp.pl)) := by
  refine Det.script (us.map Stp.pl) (aCons_det (lstD_det (ds := (us.map Stp.pl).map Stp.D) (fun s => ?_) (by rw [List.length_map, List.length_map]; omega)) aNil_det) (by rw [pls_flat, List.length_map]; exact hl) (pls_wf h) (pls_round h)
  rw [List.map_map]; exact ha s
theorem ok_shift {n : Int} (h : -100 ≤ n ∧ n ≤ 100) : Pl.ok84 (.shift n) := ⟨h, fun p e => nomatch e⟩
theorem ok_keep {p : Int} {rs : List Int} (w : Wf p rs) (h : p ∣ 12) : Pl.ok84 (.keep p rs) ∧ Pl.ok84 (.strike p rs) := ⟨⟨w, fun q e => by cases e; exact ⟨w.pos, Int.dvd_trans h (by decide)⟩⟩, w, fun q e => by cases e; exact ⟨w.pos, Int.dvd_trans h (by decide)⟩⟩
theorem word_det {w : Str} {β : Env → M S D} {d : D} (h : Det β env d) : Det (tupD (aCons (rC (.str w)) (aCons β aNil))) env (.tup [.str w, d]) := tupD_det (aCons_det Det.c (aCons_det h aNil_det)) (by simp)
theorem fate_shift (n d : Int) : fate [.pl (.shift n)] (some d) = some (d + n) := rfl
theorem fate_keep (p : Int) (rs : List Int) (d : Int) : fate [.pl (.keep p rs)] (some d) = if d % p ∈ rs then some d else none := rfl
theorem fate_strike (p : Int) (rs : List Int) (d : Int) : fate [.pl (.strike p rs)] (some d) = if d % p ∈ rs then none else some d := rfl
theorem fate_since (us : List Pl) {d : Int} (h : 0 ≤ d) : fate [.since (-100) us] (some d) = fate (us.map Stp.pl) (some d) := by
  show (if (-100 : Int) ≤ d then goPs us (some d) else some d) = _
  rw [if_pos (by omega)]
  have : ∀ (us : List Pl) (o : Option Int), gos Pl.go us o = gos Stp.go (us.map Stp.pl) o := fun us => by
    induction us with
    | nil => exact fun o => rfl
    | cons u us ih => exact fun o => ih _
  exact this us _
end
end DL
set_option Elab.async false
set_option linter.all false
set_option maxRecDepth 100000
set_option maxHeartbeats 1000000
set_option autoImplicit false
/-! the law k11: parts of a turn -/
namespace DL
open PySem PySem.Spec PyProof.Rows L2 Rh
section
variable {cs : List Str} {S : Type} {env : Env} {s : S}
theorem sOwn_of {i : Nat} {τ : Env → M S (List D)} {ds : List D} {s1 : S} (h : τ env s = .ok ds s1) (hl : ds.length ≤ 1000000) : sOwn i τ env s = .ok (.nx (env.set i (some (.own ds)))) s1 := by
  show ((τ env s).bind _) = _
  rw [h, Res.bind_ok]
  show (grd (ds.length ≤ sizeLine) (pure (.nx (env.set i (some (.own ds))))) : M S Flw) s1 = _
  rw [grd_pos (sz6 hl)]; rfl
theorem loop7 {body : Env → M S Flw} {n : Int} (h7 : 7 < env.length) (hn : 0 ≤ n ∧ n ≤ 1000) (hb : ∀ d : Int, 0 ≤ d → d < n → body (env.set 7 (va (.int d))) s = .ok (.nx (env.set 7 (va (.int d)))) s) : ∃ y7, sFor (iR1 (aCons (rC (.int n)) aNil)) (gNm 7) body env s = .ok (.nx (env.set 7 y7)) s := by
  have key : ∀ (ks : List Int), (∀ k ∈ ks, 0 ≤ k ∧ k < n) → ∀ x7, ∃ y7, forL (gNm 7) body (ks.map .int) (env.set 7 x7) s = .ok (.nx (env.set 7 y7)) s := fun ks => by
    induction ks with
    | nil => exact fun _ x7 => ⟨x7, rfl⟩
    | cons k ks ih =>
      intro hk x7
      obtain ⟨k1, k2⟩ := hk k List.mem_cons_self
      obtain ⟨y7, e⟩ := ih (fun j hj => hk j (List.mem_cons_of_mem _ hj)) (va (.int k))
      refine ⟨y7, forL_cons (e := env.set 7 (va (.int k))) (s1 := s) ?_ e⟩
      rw [List.set_set]
      exact hb k k1 k2
  obtain ⟨y7, e⟩ := key (rngI 0 n) (fun k hk => mem_rngI.mp hk) env[7]
  rw [List.set_getElem_self] at e
  refine ⟨y7, for_of (s1 := s) (ds := (rngI 0 n).map .int) ?_ e⟩
  rw [← rngD_eq]
  exact Det.rng (S := S) (j := n) Det.c (by omega) s
theorem isNn_opt (b : Option Int) : (isND true (optD b) .non : M S D) s = .ok (.bl b.isSome) s := by cases b <;> rfl
noncomputable abbrev body1 (cs : List Str) {S : Type} : Env → M S Flw := (sSeq (sIf (andT (asT (bin (isND false) (cao "Script" (sem_Script___call__ cs) 2 (rVar 4) (aCons (rVar 7) aNil)) (rC .non))) (asT (bin (isND true) (cao "Script" (sem_Script___call__ cs) 2 (rVar 6) (aCons (rVar 7) aNil)) (rC .non)))) (sRet (rC (.bl false))) sNx) (sIf (andT (asT (bin (isND true) (cao "Script" (sem_Script___call__ cs) 2 (rVar 4) (aCons (rVar 7) aNil)) (rC .non))) (andT (asT (bin geD (cao "Script" (sem_Script___call__ cs) 2 (rVar 4) (aCons (rVar 7) aNil)) (rC (.int 0)))) (asT (bin (eqD true) (cao "Script" (sem_Script___call__ cs) 2 (rVar 6) (aCons (rVar 7) aNil)) (cao "Script" (sem_Script___call__ cs) 2 (rVar 5) (aCons (cao "Script" (sem_Script___call__ cs) 2 (rVar 4) (aCons (rVar 7) aNil)) aNil)))))) (sRet (rC (.bl false))) sNx))
theorem body1_ok {A B : List Stp} (ha : ∀ x ∈ A, x.wf) (hb : ∀ x ∈ B, x.wf) (hs : spanS (A ++ B) ≤ 100000) {d : Int} (h0 : 0 ≤ d ∧ d < 130) (h4 : env[4]? = some (va (scD A))) (h5 : env[5]? = some (va (scD B))) (h6 : env[6]? = some (va (scD (A ++ B)))) (h7 : env[7]? = some (va (.int d))) : body1 cs env s = .ok (.nx env) s := by
  have wab : ∀ x ∈ A ++ B, x.wf := fun x hx => (List.mem_append.mp hx).elim (ha x) (hb x)
  have d4 := cao_det (cs := cs) (S := S) (fun x hx => (ha x hx).rd) h0.1 (Det.var h4) (Det.var h7)
  have d6 := cao_det (cs := cs) (S := S) (fun x hx => (wab x hx).rd) h0.1 (Det.var h6) (Det.var h7)
  have n4 : ∀ s : S, (asT (bin (isND false) (cao "Script" (sem_Script___call__ cs) 2 (rVar 4) (aCons (rVar 7) aNil)) (rC .non)) : Env → M S Bool) env s = .ok (fate A (some d)).isNone s := fun s => asT_of (bin_of (d4 s) rfl (isN_opt _))
  have m4 : ∀ s : S, (asT (bin (isND true) (cao "Script" (sem_Script___call__ cs) 2 (rVar 4) (aCons (rVar 7) aNil)) (rC .non)) : Env → M S Bool) env s = .ok (fate A (some d)).isSome s := fun s => asT_of (bin_of (d4 s) rfl (isNn_opt _))
  have m6 : ∀ s : S, (asT (bin (isND true) (cao "Script" (sem_Script___call__ cs) 2 (rVar 6) (aCons (rVar 7) aNil)) (rC .non)) : Env → M S Bool) env s = .ok (fate (A ++ B) (some d)).isSome s := fun s => asT_of (bin_of (d6 s) rfl (isNn_opt _))
  have ea := fate_app A B (some d)
  cases e : fate A (some d) with
  | none =>
    rw [e] at n4 m4 ea
    rw [show fate B none = none from gos_none _ B] at ea
    rw [ea] at m6
    exact skp (and_t (n4 s) (m6 s)) (if_f (and_f (m4 s)) rfl)
  | some v =>
    rw [e] at n4 m4 ea d4
    have g : ∀ s : S, (asT (bin geD (cao "Script" (sem_Script___call__ cs) 2 (rVar 4) (aCons (rVar 7) aNil)) (rC (.int 0))) : Env → M S Bool) env s = .ok (decide (0 ≤ v)) s := DetT.ge d4 Det.c
    refine skp (and_f (n4 s)) (if_f (and_t (m4 s) ?_) rfl)
    by_cases c : 0 ≤ v
    · refine and_t ((g s).trans (by rw [decide_eq_true c])) ?_
      have d5 := cao_det (cs := cs) (S := S) (τ := rVar 5) (fun x hx => (hb x hx).rd) c (Det.var h5) d4
      rw [ea] at d6
      refine DetT.neSelf (Pln.opt (o := fate B (some v)) fun w hw => ?_) (by decide) d6 d5 s
      have := fate_near (ea.trans hw)
      omega
    · exact and_f ((g s).trans (by rw [decide_eq_false c]))
noncomputable abbrev body2 (cs : List Str) {S : Type} : Env → M S Flw := (sIf (asT (bin (eqD true) (bcl sortBD (aCons (lstD (aCons (bin (isND false) (cao "Script" (sem_Script___call__ cs) 2 (rVar 17) (aCons (rVar 7) aNil)) (rC .non)) (aCons (bin (isND false) (cao "Script" (sem_Script___call__ cs) 2 (rVar 18) (aCons (rVar 7) aNil)) (rC .non)) aNil))) aNil)) (lstD (aCons (rC (.bl false)) (aCons (rC (.bl true)) aNil))))) (sRet (rC (.bl false))) sNx)
theorem body2_ok {p : Int} {rs : List Int} (w : Wf p rs) {d : Int} (h0 : 0 ≤ d) (h17 : env[17]? = some (va (scD [.pl (.keep p rs)]))) (h18 : env[18]? = some (va (scD [.pl (.strike p rs)]))) (h7 : env[7]? = some (va (.int d))) : body2 cs env s = .ok (.nx env) s := by
  have wk : ∀ x ∈ [Stp.pl (.keep p rs)], x.wf := fun x hx => by rw [List.mem_singleton] at hx; subst hx; exact w
  have ws : ∀ x ∈ [Stp.pl (.strike p rs)], x.wf := fun x hx => by rw [List.mem_singleton] at hx; subst hx; exact w
  have dk := cao_det (cs := cs) (S := S) (fun x hx => (wk x hx).rd) h0 (Det.var h17) (Det.var h7) s
  have ds := cao_det (cs := cs) (S := S) (fun x hx => (ws x hx).rd) h0 (Det.var h18) (Det.var h7) s
  rw [fate_keep] at dk
  rw [fate_strike] at ds
  have k : ∀ b : Bool, (bcl sortBD (aCons (lstD (aCons (bin (isND false) (cao "Script" (sem_Script___call__ cs) 2 (rVar 17) (aCons (rVar 7) aNil)) (rC .non)) (aCons (bin (isND false) (cao "Script" (sem_Script___call__ cs) 2 (rVar 18) (aCons (rVar 7) aNil)) (rC .non)) aNil))) aNil) : Env → M S D) env s = .ok (.lst [.bl false, .bl true]) s := fun _ => by
    by_cases c : d % p ∈ rs
    · rw [if_pos c] at dk ds
      exact call1_of (x := .lst [.bl false, .bl true]) (s1 := s) (lstD_of (aCons_of (bin_of dk rfl (isN_opt _)) (aCons_of (bin_of ds rfl (isN_opt none)) (aNil_det s))) (by simp)) (by kernel_rfl)
    · rw [if_neg c] at dk ds
      exact call1_of (x := .lst [.bl true, .bl false]) (s1 := s) (lstD_of (aCons_of (bin_of dk rfl (isN_opt none)) (aCons_of (bin_of ds rfl (isN_opt _)) (aNil_det s))) (by simp)) (by kernel_rfl)
  refine if_f (asT_of (bin_of (k true) (lstD_of (ds := [.bl false, .bl true]) (s1 := s) rfl (by simp)) ?_)) rfl
  kernel_rfl
/-- kept, then struck: all is gone -/
theorem gone_det {p : Int} {rs : List Int} (w : Wf p rs) {τ : Env → M S D} (h : Det τ env (scD [.pl (.keep p rs), .pl (.strike p rs)])) : DetT (asT (bin (eqD true) (cal (sem__law_fates_of cs) [] 1 (aCons τ aNil)) (bin repD (lstD (aCons (rC .non) aNil)) (rC (.int 130))))) env false := by
  have wa : ∀ x ∈ [Stp.pl (.keep p rs), Stp.pl (.strike p rs)], x.wf := fun x hx => by
    rcases List.mem_cons.mp hx with rfl | hx
    · exact w
    · rw [List.mem_singleton] at hx; subst hx; exact w
  have e : (fo [.pl (.keep p rs), .pl (.strike p rs)]).map optD = (List.replicate 130 [D.non]).flatten := by
    have : fo [.pl (.keep p rs), .pl (.strike p rs)] = (rngI 0 130).map fun _ => none := List.map_congr_left fun d _ => by
      show fate [.pl (.strike p rs)] (fate [.pl (.keep p rs)] (some d)) = none
      rw [fate_keep]
      by_cases c : d % p ∈ rs
      · rw [if_pos c, fate_strike, if_pos c]
      · rw [if_neg c]; rfl
    rw [this]; rfl
  have d1 := Det.cal1 (f := sem__law_fates_of cs) h fun s => fates_ok wa s
  rw [e] at d1
  have d2 : Det (S := S) (bin repD (lstD (aCons (rC .non) aNil)) (rC (.int 130))) env (.lst (List.replicate 130 [D.non]).flatten) := fun s => by kernel_rfl
  have p : Pln (.lst (List.replicate 130 [D.non]).flatten) 1 ((0 + 1) * 130) := Pln.lst (PlnL.all (a := 0) (w := 0) (ds := (List.replicate 130 [D.non]).flatten) fun d hd => by
    rw [show (List.replicate 130 [D.non]).flatten = List.replicate 130 D.non from rfl] at hd
    rw [(List.mem_replicate.mp hd).2]; exact Pln.non)
  exact DetT.neSelf p (by decide) d1 d2
/-- two keeps are one by what both have -/
theorem met_fate {p q r : Int} {rs ts us : List Int} (h : ∀ x, has r us x ↔ has p rs x ∧ has q ts x) (d : Int) : fate [.pl (.keep p rs), .pl (.keep q ts)] (some d) = fate [.pl (.keep r us)] (some d) := by
  have h := h d
  show fate [.pl (.keep q ts)] (fate [.pl (.keep p rs)] (some d)) = _
  rw [fate_keep, fate_keep]
  have h : d % r ∈ us ↔ d % p ∈ rs ∧ d % q ∈ ts := h
  by_cases c : d % p ∈ rs
  · rw [if_pos c, fate_keep]
    by_cases c2 : d % q ∈ ts
    · rw [if_pos c2, if_pos (h.mpr ⟨c, c2⟩)]
    · rw [if_neg c2, if_neg fun z => c2 (h.mp z).2]
  · rw [if_neg c, if_neg fun z => c (h.mp z).1]; rfl
end
end DL
set_option Elab.async false
set_option linter.all false
set_option maxRecDepth 100000
set_option maxHeartbeats 1000000
set_option autoImplicit false
/-! the law k11: it is so -/
namespace DL
open PySem PySem.Spec PyProof.Rows L2 Rh
section
variable {cs : List Str}
abbrev E11 (ns : List Int) (x2 x3 x4 x5 x6 x7 x8 x9 x10 x11 x12 x13 x14 x15 x16 x17 x18 x19 x20 : Option Slot) : Env := [va (.scr ns), va (.hnd 0), x2, x3, x4, x5, x6, x7, x8, x9, x10, x11, x12, x13, x14, x15, x16, x17, x18, x19, x20]
theorem bases84 {b : Int} (h : b ∈ bases) : b ∣ 84 := by
  have : ∀ b ∈ bases, (84 : Int) % b = 0 := by decide +kernel
  exact Int.dvd_of_emod_eq_zero (this b h)
theorem real_ok84 {u : Pl} (hw : u.wf) (hd : u.dv 12) : u.real.ok84 := by
  cases u with
  | shift n => exact ok_shift hw
  | frm n => exact ⟨hw, fun p e => nomatch e⟩
  | unt n => exact ⟨hw, fun p e => nomatch e⟩
  | keep p rs => exact (ok_keep (form_can hw).wf (Int.dvd_trans (least_dvd hw) hd)).1
  | strike p rs => exact (ok_keep (form_can hw).wf (Int.dvd_trans (least_dvd hw) hd)).2
theorem pls_real (us : List Pl) : reals (us.map Stp.pl) = (us.map Pl.real).map Stp.pl := by
  show (us.map Stp.pl).map Stp.real = _
  rw [List.map_map, List.map_map]; rfl
theorem pls_mD (us : List Pl) : (us.map Stp.pl).map Stp.mD = us.map Pl.mD := by rw [List.map_map]; rfl
/-- the two models: few steps are left -/
theorem two_ok {s : DrS} {ns : List Int} {xs ys : List Stp} (hx : Ms 84 8 xs) (hy : Ms 84 7 ys) (x2 x4 x5 x6 x7 x8 x9 x10 x11 x12 x13 x14 x15 x16 x17 x18 x19 x20 : Option Slot) : ∃ ys', Ms 84 11 (xs ++ ys') ∧
    (sIf (asT (bin gtD (bcl lenD (aCons (cal (sem__law_flat) [] 1 (aCons (bin addD (ixO 3 (rC (.int 0))) (ixO 3 (rC (.int 1)))) aNil)) aNil)) (rC (.int 11)))) (sSetI 3 (rC (.int 1)) (lstD aNil)) sNx : Env → M DrS Flw) (E11 ns x2 (some (.own [.lst (xs.map Stp.mD), .lst (ys.map Stp.mD)])) x4 x5 x6 x7 x8 x9 x10 x11 x12 x13 x14 x15 x16 x17 x18 x19 x20) s = .ok (.nx (E11 ns x2 (some (.own [.lst (xs.map Stp.mD), .lst (ys'.map Stp.mD)])) x4 x5 x6 x7 x8 x9 x10 x11 x12 x13 x14 x15 x16 x17 x18 x19 x20)) s := by
  have h := hx.app hy
  have hf := h.fl
  have hl : (flatS xs).length ≤ 8 := hx.fl
  have l1 : xs.length ≤ (flatS xs).length := len_flat xs
  have l2 : ys.length ≤ (flatS ys).length := len_flat ys
  have hl2 : (flatS ys).length ≤ 7 := hy.fl
  have d0 : Det (S := DrS) (ixO 3 (rC (.int 0))) (E11 ns x2 (some (.own [.lst (xs.map Stp.mD), .lst (ys.map Stp.mD)])) x4 x5 x6 x7 x8 x9 x10 x11 x12 x13 x14 x15 x16 x17 x18 x19 x20) (.lst (xs.map Stp.mD)) := ixO_det rfl rfl
  have d1 : Det (S := DrS) (ixO 3 (rC (.int 1))) (E11 ns x2 (some (.own [.lst (xs.map Stp.mD), .lst (ys.map Stp.mD)])) x4 x5 x6 x7 x8 x9 x10 x11 x12 x13 x14 x15 x16 x17 x18 x19 x20) (.lst (ys.map Stp.mD)) := ixO_det rfl rfl
  have d2 := Det.add_lst d0 d1 (by rw [List.length_map, List.length_map]; omega)
  rw [← List.map_append] at d2
  have t := gtI (S := DrS) (i := ((flatS (xs ++ ys)).length : Int)) (Det.call1 (f := lenD) (Det.cal1 d2 fun s => lflat_ok (xs ++ ys) (by omega)) fun s => by
    show Res.ok (D.int ((flatS (xs ++ ys)).map Stp.mD).length) s = _
    rw [List.length_map]) (Det.c (d := .int 11)) s
  by_cases c : (11 : Int) < (flatS (xs ++ ys)).length
  · refine ⟨[], by rw [List.append_nil]; exact hx.mono (by decide), if_t (t.trans (by rw [decide_eq_true c])) rfl⟩
  · exact ⟨ys, ⟨h.wf, h.dv, by omega⟩, if_f (t.trans (by rw [decide_eq_false c])) rfl⟩
section
variable {S : Type} {env : Env}
theorem real_span {us : List Pl} (h : ∀ u ∈ us, u.wf ∧ u.dv 12) (hl : us.length ≤ 12) : spanS ((us.map Pl.real).map Stp.pl) ≤ 1000000 := by
  rw [← pls_real, span_real]
  have := span_le (base := 12) (xs := us.map Stp.pl) fun x hx => by
    obtain ⟨u, hu, rfl⟩ := List.mem_map.mp hx
    exact (h u hu).2
  rw [pls_flat, List.length_map] at this
  omega
theorem apart_det {us : List Pl} (h : ∀ u ∈ us, u.wf ∧ u.dv 12) (hl : us.length ≤ 3) (h8 : env[8]? = some (va (.lst (us.map Pl.mD)))) : Det (S := S) (cal (sem__law_made cs) [] 1 (aCons (rVar 8) aNil)) env (scD ((us.map Pl.real).map Stp.pl)) := by
  have hx : Ms 84 12 (us.map Stp.pl) := ⟨fun x hx => by
    obtain ⟨u, hu, rfl⟩ := List.mem_map.mp hx
    exact (h u hu).1, fun x hx => by
    obtain ⟨u, hu, rfl⟩ := List.mem_map.mp hx
    exact Pl.dv_mono (by decide) (h u hu).2, by rw [pls_flat, List.length_map]; omega⟩
  rw [← pls_real]
  refine Det.cal1 (Det.var h8) fun s => ?_
  rw [← pls_mD]
  exact hx.made (by decide) ⟨by decide, by decide⟩
theorem whole_det {us : List Pl} (h : ∀ u ∈ us, u.wf ∧ u.dv 12) (hn : us ≠ []) (hl : us.length ≤ 3) (h8 : env[8]? = some (va (.lst (us.map Pl.mD)))) : Det (S := S) (cal (sem__law_made cs) [] 1 (aCons (lstD (aCons (tupD (aCons (rC (.str "since")) (aCons (negD (rC (.int 100))) (aCons (bcl tupleD (aCons (rVar 8) aNil)) aNil)))) aNil)) aNil)) env (scD [.since (-100) (us.map Pl.real)]) := by
  have hs := Sm.ofSince (base := 12) (n := -100) (by decide) (by exact ⟨by decide, by decide⟩) hn (by omega) h
  have hr : roundS (reals [Stp.since (-100) us]) ≤ 84 := round84 fun p hp => by
    have hok : ∀ x ∈ us.map Pl.real, x.ok84 := fun x hx => by
      obtain ⟨u, hu, rfl⟩ := List.mem_map.mp hx
      exact real_ok84 (h u hu).1 (h u hu).2
    have hp : p ∈ ((us.map Pl.real).map Stp.pl).filterMap Stp.rnd := by
      have e : rounds (reals [Stp.since (-100) us]) = ((Stp.since (-100) (us.map Pl.real) :: (us.map Pl.real).map Stp.pl) ++ []).filterMap Stp.rnd := rfl
      rw [e, List.append_nil, List.filterMap_cons_none rfl] at hp
      exact hp
    obtain ⟨z, hz, e⟩ := List.mem_filterMap.mp hp
    obtain ⟨x, hx, rfl⟩ := List.mem_map.mp hz
    exact (hok x hx).2 p e
  refine Det.cal1 (x := .lst ([Stp.since (-100) us].map Stp.mD)) (lstD_det (aCons_det (tupD_det (aCons_det Det.c (aCons_det (d := .int (-100)) (fun s => rfl) (aCons_det (Det.call1 (Det.var h8) fun s => rfl) aNil_det))) (by simp)) aNil_det) (by simp)) fun s => ?_
  refine made_ok [Stp.since (-100) us] ?_ (fun x hx => by rw [List.mem_singleton] at hx; subst hx; exact hs.wf) (fun x hx => by rw [List.mem_singleton] at hx; subst hx; exact hs.le3) hr
  show ((Stp.since (-100) us :: us.map Stp.pl) ++ []).length ≤ 12
  rw [List.append_nil, List.length_cons, List.length_map]; omega
theorem since_if {us : List Pl} (h : ∀ u ∈ us, u.wf ∧ u.dv 12) (hn : us ≠ []) (hl : us.length ≤ 3) (h10 : env[10]? = some (va (scD [.since (-100) (us.map Pl.real)]))) (h11 : env[11]? = some (va (scD ((us.map Pl.real).map Stp.pl)))) : DetT (S := S) (asT (bin (eqD true) (cal (sem__law_fates_of cs) [] 1 (aCons (rVar 10) aNil)) (cal (sem__law_fates_of cs) [] 1 (aCons (rVar 11) aNil)))) env false := by
  have hok : ∀ x ∈ us.map Pl.real, x.ok84 := fun x hx => by
    obtain ⟨u, hu, rfl⟩ := List.mem_map.mp hx
    exact real_ok84 (h u hu).1 (h u hu).2
  refine fo_ne (fun x hx => ?_) (pls_wf hok) (.inr (real_span h (by omega))) (Det.var h10) (Det.var h11) fun d hd => fate_since _ hd
  rw [List.mem_singleton] at hx
  subst hx
  exact ⟨⟨by decide, by decide⟩, fun z => hn (List.map_eq_nil_iff.mp z), fun x hx => (hok x hx).1⟩
theorem shift_span (n : Int) (h : -100 ≤ n ∧ n ≤ 100) : spanS [.pl (.shift n)] ≤ 1000000 := by
  have e : spanS [.pl (.shift n)] = sumL [absI n] := rfl
  rw [e, sumL_cons]
  show absI n + 0 ≤ 1000000
  unfold absI
  split <;> omega
theorem shift_if {a b : Int} (ha : -20 ≤ a ∧ a ≤ 20) (hb : -20 ≤ b ∧ b ≤ 20) (h12 : env[12]? = some (va (.int a))) (h13 : env[13]? = some (va (.int b))) (h14 : env[14]? = some (va (scD [.pl (.shift (a + b))]))) : DetT (S := S) (asT (bin (eqD true) (cal (sem__law_fates_of cs) [] 1 (aCons (mk "Script" (sem_Script___init__ cs) [] 1 (aCons (lstD (aCons (tupD (aCons (rC (.str "shift")) (aCons (rVar 12) aNil))) (aCons (tupD (aCons (rC (.str "shift")) (aCons (rVar 13) aNil))) aNil))) aNil)) aNil)) (cal (sem__law_fates_of cs) [] 1 (aCons (rVar 14) aNil)))) env false := by
  have o : ∀ x ∈ [Pl.shift a, Pl.shift b], x.ok84 := fun x hx => by
    rcases List.mem_cons.mp hx with rfl | hx
    · exact ok_shift (by omega)
    · rw [List.mem_singleton] at hx; subst hx; exact ok_shift (by omega)
  have d1 := det_scs (cs := cs) (S := S) (env := env) (us := [Pl.shift a, Pl.shift b]) o (by simp) (aCons_det (word_det (w := "shift") (Det.var h12)) (aCons_det (word_det (w := "shift") (Det.var h13)) aNil_det))
  refine fo_ne (pls_wf o) (fun x hx => ?_) (.inr (shift_span (a + b) (by omega))) d1 (Det.var h14) fun d hd => ?_
  · rw [List.mem_singleton] at hx; subst hx; exact (ok_shift (n := a + b) (by omega)).1
  · show some (d + a + b) = some (d + (a + b))
    rw [Int.add_assoc]
theorem added_det {a b : Int} (ha : -20 ≤ a ∧ a ≤ 20) (hb : -20 ≤ b ∧ b ≤ 20) (h12 : env[12]? = some (va (.int a))) (h13 : env[13]? = some (va (.int b))) : Det (S := S) (mk "Script" (sem_Script___init__ cs) [] 1 (aCons (lstD (aCons (tupD (aCons (rC (.str "shift")) (aCons (bin addD (rVar 12) (rVar 13)) aNil))) aNil)) aNil)) env (scD [.pl (.shift (a + b))]) :=
  det_scs (us := [Pl.shift (a + b)]) (fun x hx => by rw [List.mem_singleton] at hx; subst hx; exact ok_shift (by omega)) (by simp) (aCons_det (word_det (w := "shift") (Det.add (Det.var h12) (Det.var h13))) aNil_det)
theorem still_if {xs : List Stp} (hx : Ms 84 11 xs) (h4 : env[4]? = some (va (scD (reals xs)))) : DetT (S := S) (asT (bin (eqD true) (cal (sem__law_fates_of cs) [] 1 (aCons (bin (opOwn "Script" (sem_Script___add__ cs)) (rVar 4) (mk "Script" (sem_Script___init__ cs) [] 1 (aCons (lstD (aCons (tupD (aCons (rC (.str "shift")) (aCons (rC (.int 0)) aNil))) aNil)) aNil))) aNil)) (cal (sem__law_fates_of cs) [] 1 (aCons (rVar 4) aNil)))) env false := by
  have d0 := det_scs (cs := cs) (S := S) (env := env) (us := [Pl.shift 0]) (fun x hx => by rw [List.mem_singleton] at hx; subst hx; exact ok_shift (by decide)) (by decide) (aCons_det (word_det (w := "shift") (Det.c (d := .int 0))) aNil_det)
  have m : Ms 84 12 (xs ++ [Stp.pl (.shift 0)]) := hx.app (Ms.one (m := 1) (x := .pl (.shift 0)) (by exact ⟨by decide, by decide⟩) (by exact ⟨by decide, by decide⟩) (by decide))
  have sc := m.scr (by decide) ⟨by decide, by decide⟩
  rw [show reals (xs ++ [Stp.pl (.shift 0)]) = reals xs ++ [Stp.pl (.shift 0)] from List.map_append] at sc
  have sA := hx.scr (by decide) ⟨by decide, by decide⟩
  refine fo_ne sc.wf sA.wf (.inr (by have := sA.spn; omega)) (det_addSc sc (Det.var h4) d0) (Det.var h4) fun d hd => ?_
  rw [fate_app]
  cases fate (reals xs) (some d) with
  | none => rfl
  | some v => rw [fate_shift, Int.add_zero]
/-- a rhythm of the package by a model -/
theorem beat_det {n : Int} {rs : List Int} (w : Wf n rs) (hn : n ≤ 14) (h : env[16]? = some (va (rhM n rs))) : Det (S := S) (mk "Rhythm" (sem_Rhythm___init__ cs) [] 2 (aCons (bin ixD (rVar 16) (rC (.int 0))) (aCons (bcl listD (aCons (bin ixD (rVar 16) (rC (.int 1))) aNil)) aNil))) env (rhD (leastP n rs) (formR n rs)) := by
  have dv : Det (S := S) (rVar 16) env (rhM n rs) := Det.var h
  have hl := wf_len w
  exact fun s => mk_rh (th := .lst (rs.map .int)) (aCons_det (Det.bin dv Det.c fun s => rfl) (aCons_det (Det.call1 (Det.bin dv Det.c fun s => rfl) fun s => rfl) aNil_det) s) (.inl rfl) ⟨wfB_iff.mpr w, by omega, by omega⟩
theorem bIx0 {τ : Env → M S D} {a b : D} (h : Det τ env (.lst [a, b])) : Det (bin ixD τ (rC (.int 0))) env a := Det.bin h Det.c fun s => rfl
theorem bIx1 {τ : Env → M S D} {a b : D} (h : Det τ env (.lst [a, b])) : Det (bin ixD τ (rC (.int 1))) env b := Det.bin h Det.c fun s => rfl
theorem one_sc {w : Str} {f : Int → List Int → Pl} (hf : ∀ p rs, (f p rs).D = .tup [.str w, rhD p rs]) {p : Int} {rs : List Int} (ho : (f p rs).ok84) {β : Env → M S D} (h : Det β env (rhD p rs)) : Det (mk "Script" (sem_Script___init__ cs) [] 1 (aCons (lstD (aCons (tupD (aCons (rC (.str w)) (aCons β aNil))) aNil)) aNil)) env (scD [.pl (f p rs)]) :=
  det_scs (us := [f p rs]) (fun x hx => by rw [List.mem_singleton] at hx; subst hx; exact ho) (by simp) (fun s => by
    rw [List.map_singleton, hf]
    exact aCons_det (word_det h) aNil_det s)
theorem two_sc {p q : Int} {rs ts : List Int} (ho : (Pl.keep p rs).ok84) (ho2 : (Pl.keep q ts).ok84) {β γ : Env → M S D} (h : Det β env (rhD p rs)) (h' : Det γ env (rhD q ts)) : Det (mk "Script" (sem_Script___init__ cs) [] 1 (aCons (lstD (aCons (tupD (aCons (rC (.str "keep")) (aCons β aNil))) (aCons (tupD (aCons (rC (.str "keep")) (aCons γ aNil))) aNil))) aNil)) env (scD [.pl (.keep p rs), .pl (.keep q ts)]) :=
  det_scs (us := [Pl.keep p rs, Pl.keep q ts]) (fun x hx => by
    rcases List.mem_cons.mp hx with rfl | hx
    · exact ho
    · rw [List.mem_singleton] at hx; subst hx; exact ho2) (by simp) (aCons_det (word_det h) (aCons_det (word_det h') aNil_det))
end
theorem law_yes (hc : ("Rhythm" : Str) ∈ cs) (cells ns : List Int) : Yes (rd_law cs cells (E11 ns none none none none none none none none none none none none none none none none none none none)) fun f => f = .rt (.bl true) := by
  unfold rd_law
  refine Yes.seq (I := fun e => ∃ x2 x3 x4 x5 x6 x7 x8 x9 x10 x11 x12 x13 x14 x15 x16 x17 x18 x19 x20 : Option Slot, e = E11 ns x2 x3 x4 x5 x6 x7 x8 x9 x10 x11 x12 x13 x14 x15 x16 x17 x18 x19 x20) ?_ ?_
  rotate_left
  · rintro _ ⟨x2, x3, x4, x5, x6, x7, x8, x9, x10, x11, x12, x13, x14, x15, x16, x17, x18, x19, x20, rfl⟩
    exact fun s => ⟨_, s, rfl, rfl⟩
  show Yes (sFor _ _ _ _) _
  refine Yes.bind (P := fun _ => True) ?_ fun ds hd => ?_
  · intro s
    refine ⟨rngD 0 (4 + (if (16 : Int) < ns.length then (16 : Int) else (ns.length : Int))), s, ?_, trivial⟩
    refine Det.rng (j := 4 + (if (16 : Int) < ns.length then (16 : Int) else (ns.length : Int))) (Det.bin Det.c (y := .int (if (16 : Int) < ns.length then 16 else ns.length)) (Det.call2 (y := .int 16) (Det.call1 (z := .int ns.length) (Det.var rfl) fun s => rfl) Det.c fun s => rfl) fun s => rfl) ?_ s
    split <;> omega
  refine Yes.loop _ ?_ ⟨none, none, none, none, none, none, none, none, none, none, none, none, none, none, none, none, none, none, none, rfl⟩
  rintro tn - _ ⟨x2, x3, x4, x5, x6, x7, x8, x9, x10, x11, x12, x13, x14, x15, x16, x17, x18, x19, x20, rfl⟩
  refine Yes.mono (Yes.of fun s => gNm_run) ?_
  rintro _ rfl
  intro s
  -- the models
  obtain ⟨_, s1, e1, base, hb, xs, rfl, hx⟩ := steps_yes cells (most := 4) (wide := 40) (b := false) (by decide) (by decide) (by decide) s
  obtain ⟨_, s2, e2, base2, hb2, ys, rfl, hy⟩ := steps_yes cells (most := 3) (wide := 40) (b := false) (by decide) (by decide) (by decide) s1
  obtain ⟨ys, hm, ei⟩ := two_ok (s := s2) (ns := ns) (hx.ms (bases84 hb)) (hy.ms (bases84 hb2)) (va tn) x4 x5 x6 x7 x8 x9 x10 x11 x12 x13 x14 x15 x16 x17 x18 x19 x20
  have hmx : Ms 84 11 xs := hm.sub (List.sublist_append_left _ _)
  have hmx8 : Ms 84 8 xs := hx.ms (bases84 hb)
  have hmy : Ms 84 11 ys := hm.sub (List.sublist_append_right _ _)
  have r84 : (1 : Int) ≤ 84 ∧ (84 : Int) ≤ 84 := ⟨by decide, by decide⟩
  have sA := hmx.scr (by decide) r84
  have sB := hmy.scr (by decide) r84
  have sAB := hm.scr (by decide) r84
  have eAB : reals (xs ++ ys) = reals xs ++ reals ys := List.map_append
  have e0 : (sOwn 3 (aCons (cal (sem__law_steps cells) [] 4 (aCons (rVar 1) (aCons (rC (.int 4)) (aCons (rC (.int 40)) (aCons (rC (.bl false)) aNil))))) (aCons (cal (sem__law_steps cells) [] 4 (aCons (rVar 1) (aCons (rC (.int 3)) (aCons (rC (.int 40)) (aCons (rC (.bl false)) aNil))))) aNil)) : Env → M DrS Flw) (E11 ns (va tn) x3 x4 x5 x6 x7 x8 x9 x10 x11 x12 x13 x14 x15 x16 x17 x18 x19 x20) s = _ := sOwn_of (ds := _) (aCons_of (s1 := s1) (by
    rw [cal_run, aCons_of (s1 := s) (d := .hnd 0) rfl (aCons_of (s1 := s) (d := .int ((4 : Nat) : Int)) rfl (aCons_of (s1 := s) (d := .int 40) rfl (aCons_of (s1 := s) (d := .bl false) rfl (aNil_det s))))]
    exact e1) (aCons_of (s1 := s2) (by
    rw [cal_run, aCons_of (s1 := s1) (d := .hnd 0) rfl (aCons_of (s1 := s1) (d := .int ((3 : Nat) : Int)) rfl (aCons_of (s1 := s1) (d := .int 40) rfl (aCons_of (s1 := s1) (d := .bl false) rfl (aNil_det s1))))]
    exact e2) (aNil_det s2))) (by simp)
  have m3 : ∀ s : DrS, (sem__law_made cs [.lst (xs.map Stp.mD)] : M DrS D) s = .ok (scD (reals xs)) s := fun s => hmx.made (by decide) r84
  have m4 : ∀ s : DrS, (sem__law_made cs [.lst (ys.map Stp.mD)] : M DrS D) s = .ok (scD (reals ys)) s := fun s => hmy.made (by decide) r84
  have e3 : (sPar 4 5 (aCons (cal (sem__law_made cs) [] 1 (aCons (ixO 3 (rC (.int 0))) aNil)) (aCons (cal (sem__law_made cs) [] 1 (aCons (ixO 3 (rC (.int 1))) aNil)) aNil)) : Env → M DrS Flw) (E11 ns (va tn) (some (.own [.lst (xs.map Stp.mD), .lst (ys.map Stp.mD)])) x4 x5 x6 x7 x8 x9 x10 x11 x12 x13 x14 x15 x16 x17 x18 x19 x20) s2 = .ok (.nx (E11 ns (va tn) (some (.own [.lst (xs.map Stp.mD), .lst (ys.map Stp.mD)])) (va (scD (reals xs))) (va (scD (reals ys))) x6 x7 x8 x9 x10 x11 x12 x13 x14 x15 x16 x17 x18 x19 x20)) s2 := by
    rw [sPar_run (aCons_of (Det.cal1 (ixO_det rfl rfl) m3 s2) (aCons_of (Det.cal1 (ixO_det rfl rfl) m4 s2) (aNil_det s2)))]
    rfl
  have e4 := det_addSc (cs := cs) (S := DrS) (env := E11 ns (va tn) (some (.own [.lst (xs.map Stp.mD), .lst (ys.map Stp.mD)])) (va (scD (reals xs))) (va (scD (reals ys))) x6 x7 x8 x9 x10 x11 x12 x13 x14 x15 x16 x17 x18 x19 x20) (τ := rVar 4) (υ := rVar 5) (by rw [← eAB]; exact sAB) (Det.var rfl) (Det.var rfl) s2
  obtain ⟨y7, e5⟩ := loop7 (s := s2) (n := 130) (body := body1 cs) (env := E11 ns (va tn) (some (.own [.lst (xs.map Stp.mD), .lst (ys.map Stp.mD)])) (va (scD (reals xs))) (va (scD (reals ys))) (va (scD (reals xs ++ reals ys))) x7 x8 x9 x10 x11 x12 x13 x14 x15 x16 x17 x18 x19 x20) (by show 7 < 21; decide) (by decide) fun d d0 d1 => body1_ok sA.wf sB.wf (by have := sAB.spn; rw [eAB] at this; omega) ⟨d0, d1⟩ rfl rfl rfl rfl
  -- a since from the least number on
  obtain ⟨_, s3, e6, ds6, rfl, u1, u2, hp⟩ := Yes.drawn (own := [9]) (i := 9) (env := E11 ns (va tn) (some (.own [.lst (xs.map Stp.mD), .lst (ys.map Stp.mD)])) (va (scD (reals xs))) (va (scD (reals ys))) (va (scD (reals xs ++ reals ys))) y7 x8 x9 x10 x11 x12 x13 x14 x15 x16 x17 x18 x19 x20) (P := IsPl 12) (lo := 1) (hi := 3) (IntE.add (IntE.c (P := (· = 1)) rfl) (take_in (i := 1) (cells := cells) rfl (IntE.c (P := (· = 3)) rfl) (by decide) (by decide)) (by rintro p q rfl h; omega)) (by decide) (by decide) (fun x => draw2 (i := 1) (sem := sem__law_plain_step cells) rfl (Yes.c (d := .int 12)) (Yes.c (d := .int 30)) (plain_step_ok cells (by decide) (by decide) (by decide))) s2
  obtain ⟨us, rfl, hu⟩ := choose_list hp
  rw [List.length_map] at u1 u2
  have un : us ≠ [] := fun z => by rw [z] at u1; simp at u1
  have e7 : (sPar 10 11 (aCons (cal (sem__law_made cs) [] 1 (aCons (lstD (aCons (tupD (aCons (rC (.str "since")) (aCons (negD (rC (.int 100))) (aCons (bcl tupleD (aCons (rVar 8) aNil)) aNil)))) aNil)) aNil)) (aCons (cal (sem__law_made cs) [] 1 (aCons (rVar 8) aNil)) aNil)) : Env → M DrS Flw) (E11 ns (va tn) (some (.own [.lst (xs.map Stp.mD), .lst (ys.map Stp.mD)])) (va (scD (reals xs))) (va (scD (reals ys))) (va (scD (reals xs ++ reals ys))) y7 (va (.lst (us.map Pl.mD))) x9 x10 x11 x12 x13 x14 x15 x16 x17 x18 x19 x20) s3 = .ok (.nx (E11 ns (va tn) (some (.own [.lst (xs.map Stp.mD), .lst (ys.map Stp.mD)])) (va (scD (reals xs))) (va (scD (reals ys))) (va (scD (reals xs ++ reals ys))) y7 (va (.lst (us.map Pl.mD))) x9 (va (scD [.since (-100) (us.map Pl.real)])) (va (scD ((us.map Pl.real).map Stp.pl))) x12 x13 x14 x15 x16 x17 x18 x19 x20)) s3 := by
    rw [sPar_run (aCons_of (whole_det hu un (by omega) rfl s3) (aCons_of (apart_det hu (by omega) rfl s3) (aNil_det s3)))]
    rfl
  -- shifts
  obtain ⟨_, s4, e8, e', rfl, _, _, ⟨a, rfl, ha⟩, ⟨b, rfl, hb'⟩, rfl⟩ := Yes.par (i := 12) (j := 13) (env := E11 ns (va tn) (some (.own [.lst (xs.map Stp.mD), .lst (ys.map Stp.mD)])) (va (scD (reals xs))) (va (scD (reals ys))) (va (scD (reals xs ++ reals ys))) y7 (va (.lst (us.map Pl.mD))) x9 (va (scD [.since (-100) (us.map Pl.real)])) (va (scD ((us.map Pl.real).map Stp.pl))) x12 x13 x14 x15 x16 x17 x18 x19 x20) (P := IsI fun v => -20 ≤ v ∧ v ≤ 20) (Q := IsI fun v => -20 ≤ v ∧ v ≤ 20) (IntE.op0 (g := fun i j => i - j) (take_in (i := 1) (cells := cells) rfl (IntE.c (P := (· = 41)) rfl) (by decide) (by decide)) (IntE.c (P := (· = 20)) rfl) (by rintro i j a rfl; omega)) (IntE.op0 (g := fun i j => i - j) (take_in (i := 1) (cells := cells) rfl (IntE.c (P := (· = 41)) rfl) (by decide) (by decide)) (IntE.c (P := (· = 20)) rfl) (by rintro i j a rfl; omega)) s3
  -- rhythms
  obtain ⟨_, s5, e9, n, rs, rfl, hn, hw, hd⟩ := rhythm_ok cells (base := 12) (by decide) s4
  obtain ⟨_, s6, e10, n2, rs2, rfl, hn2, hw2, hd2⟩ := rhythm_ok cells (base := 12) (by decide) s5
  have e11 : (sOwn 3 (aCons (cal (sem__law_rhythm cells) [] 2 (aCons (rVar 1) (aCons (rC (.int 12)) aNil))) (aCons (cal (sem__law_rhythm cells) [] 2 (aCons (rVar 1) (aCons (rC (.int 12)) aNil))) aNil)) : Env → M DrS Flw) (E11 ns (va tn) (some (.own [.lst (xs.map Stp.mD), .lst (ys.map Stp.mD)])) (va (scD (reals xs))) (va (scD (reals ys))) (va (scD (reals xs ++ reals ys))) y7 (va (.lst (us.map Pl.mD))) x9 (va (scD [.since (-100) (us.map Pl.real)])) (va (scD ((us.map Pl.real).map Stp.pl))) (va (.int a)) (va (.int b)) (va (scD [.pl (.shift (a + b))])) x15 x16 x17 x18 x19 x20) s4 = .ok (.nx (E11 ns (va tn) (some (.own [rhM n rs, rhM n2 rs2])) (va (scD (reals xs))) (va (scD (reals ys))) (va (scD (reals xs ++ reals ys))) y7 (va (.lst (us.map Pl.mD))) x9 (va (scD [.since (-100) (us.map Pl.real)])) (va (scD ((us.map Pl.real).map Stp.pl))) (va (.int a)) (va (.int b)) (va (scD [.pl (.shift (a + b))])) x15 x16 x17 x18 x19 x20)) s6 := sOwn_of (ds := [rhM n rs, rhM n2 rs2]) (aCons_of (s1 := s5) (by
    rw [cal_run, aCons_of (s1 := s4) (d := .hnd 0) rfl (aCons_of (s1 := s4) (d := .int 12) rfl (aNil_det s4))]
    exact e9) (aCons_of (s1 := s6) (by
    rw [cal_run, aCons_of (s1 := s5) (d := .hnd 0) rfl (aCons_of (s1 := s5) (d := .int 12) rfl (aNil_det s5))]
    exact e10) (aNil_det s6))) (by simp)
  have e12 : (cmp [16] (iOwn 3) (gNm 16) tYs (mk "Rhythm" (sem_Rhythm___init__ cs) [] 2 (aCons (bin ixD (rVar 16) (rC (.int 0))) (aCons (bcl listD (aCons (bin ixD (rVar 16) (rC (.int 1))) aNil)) aNil))) : Env → M DrS D) (E11 ns (va tn) (some (.own [rhM n rs, rhM n2 rs2])) (va (scD (reals xs))) (va (scD (reals ys))) (va (scD (reals xs ++ reals ys))) y7 (va (.lst (us.map Pl.mD))) x9 (va (scD [.since (-100) (us.map Pl.real)])) (va (scD ((us.map Pl.real).map Stp.pl))) (va (.int a)) (va (.int b)) (va (scD [.pl (.shift (a + b))])) x15 x16 x17 x18 x19 x20) s6 = .ok (.lst [rhD (leastP n rs) (formR n rs), rhD (leastP n2 rs2) (formR n2 rs2)]) s6 := by
    refine cmp_of (s1 := s6) (s2 := s6) (xs := [rhM n rs, rhM n2 rs2]) rfl (by show 2 ≤ sizeLine; exact sz6 (by decide)) ?_
    refine (cmpL_TM (S := DrS) (fun q : Int × List Int => rhM q.1 q.2) (fun q => rhD (leastP q.1 q.2) (formR q.1 q.2)) (xs := [(n, rs), (n2, rs2)]) fun q hq => ?_ :)
    rcases List.mem_cons.mp hq with rfl | hq
    · exact beat_det hw hn rfl s6
    · rw [List.mem_singleton] at hq; subst hq; exact beat_det hw2 hn2 rfl s6
  have c1 := form_can hw
  have c2 := form_can hw2
  have q1 := Int.dvd_trans (least_dvd hw) hd
  have q2 := Int.dvd_trans (least_dvd hw2) hd2
  have k1 := ok_keep c1.wf q1
  have k2 := ok_keep c2.wf q2
  have g1 : ∀ x16 x17 x18 x19 x20, Det (S := DrS) (bin ixD (rVar 15) (rC (.int 0))) (E11 ns (va tn) (some (.own [rhM n rs, rhM n2 rs2])) (va (scD (reals xs))) (va (scD (reals ys))) (va (scD (reals xs ++ reals ys))) y7 (va (.lst (us.map Pl.mD))) x9 (va (scD [.since (-100) (us.map Pl.real)])) (va (scD ((us.map Pl.real).map Stp.pl))) (va (.int a)) (va (.int b)) (va (scD [.pl (.shift (a + b))])) (va (.lst [rhD (leastP n rs) (formR n rs), rhD (leastP n2 rs2) (formR n2 rs2)])) x16 x17 x18 x19 x20) (rhD (leastP n rs) (formR n rs)) := fun _ _ _ _ _ => bIx0 (Det.var rfl)
  have e13 : (sPar 17 18 (aCons (mk "Script" (sem_Script___init__ cs) [] 1 (aCons (lstD (aCons (tupD (aCons (rC (.str "keep")) (aCons (bin ixD (rVar 15) (rC (.int 0))) aNil))) aNil)) aNil)) (aCons (mk "Script" (sem_Script___init__ cs) [] 1 (aCons (lstD (aCons (tupD (aCons (rC (.str "strike")) (aCons (bin ixD (rVar 15) (rC (.int 0))) aNil))) aNil)) aNil)) aNil)) : Env → M DrS Flw) (E11 ns (va tn) (some (.own [rhM n rs, rhM n2 rs2])) (va (scD (reals xs))) (va (scD (reals ys))) (va (scD (reals xs ++ reals ys))) y7 (va (.lst (us.map Pl.mD))) x9 (va (scD [.since (-100) (us.map Pl.real)])) (va (scD ((us.map Pl.real).map Stp.pl))) (va (.int a)) (va (.int b)) (va (scD [.pl (.shift (a + b))])) (va (.lst [rhD (leastP n rs) (formR n rs), rhD (leastP n2 rs2) (formR n2 rs2)])) x16 x17 x18 x19 x20) s6 = .ok (.nx (E11 ns (va tn) (some (.own [rhM n rs, rhM n2 rs2])) (va (scD (reals xs))) (va (scD (reals ys))) (va (scD (reals xs ++ reals ys))) y7 (va (.lst (us.map Pl.mD))) x9 (va (scD [.since (-100) (us.map Pl.real)])) (va (scD ((us.map Pl.real).map Stp.pl))) (va (.int a)) (va (.int b)) (va (scD [.pl (.shift (a + b))])) (va (.lst [rhD (leastP n rs) (formR n rs), rhD (leastP n2 rs2) (formR n2 rs2)])) x16 (va (scD [.pl (.keep (leastP n rs) (formR n rs))])) (va (scD [.pl (.strike (leastP n rs) (formR n rs))])) x19 x20)) s6 := by
    rw [sPar_run (aCons_of (one_sc (f := Pl.keep) (fun _ _ => rfl) k1.1 (g1 x16 x17 x18 x19 x20) s6) (aCons_of (one_sc (f := Pl.strike) (fun _ _ => rfl) k1.2 (g1 x16 x17 x18 x19 x20) s6) (aNil_det s6)))]
    rfl
  obtain ⟨z7, e14⟩ := loop7 (s := s6) (n := 40) (body := body2 cs) (env := E11 ns (va tn) (some (.own [rhM n rs, rhM n2 rs2])) (va (scD (reals xs))) (va (scD (reals ys))) (va (scD (reals xs ++ reals ys))) y7 (va (.lst (us.map Pl.mD))) x9 (va (scD [.since (-100) (us.map Pl.real)])) (va (scD ((us.map Pl.real).map Stp.pl))) (va (.int a)) (va (.int b)) (va (scD [.pl (.shift (a + b))])) (va (.lst [rhD (leastP n rs) (formR n rs), rhD (leastP n2 rs2) (formR n2 rs2)])) x16 (va (scD [.pl (.keep (leastP n rs) (formR n rs))])) (va (scD [.pl (.strike (leastP n rs) (formR n rs))])) x19 x20) (by show 7 < 21; decide) (by decide) fun d d0 d1 => body2_ok c1.wf d0 rfl rfl rfl
  have g2 : ∀ x19 x20 : Option Slot, ∃ p ts, Det (S := DrS) (bin (opOwn "Rhythm" (sem_Rhythm___and__ cs)) (bin ixD (rVar 15) (rC (.int 0))) (bin ixD (rVar 15) (rC (.int 1)))) (E11 ns (va tn) (some (.own [rhM n rs, rhM n2 rs2])) (va (scD (reals xs))) (va (scD (reals ys))) (va (scD (reals xs ++ reals ys))) z7 (va (.lst (us.map Pl.mD))) x9 (va (scD [.since (-100) (us.map Pl.real)])) (va (scD ((us.map Pl.real).map Stp.pl))) (va (.int a)) (va (.int b)) (va (scD [.pl (.shift (a + b))])) (va (.lst [rhD (leastP n rs) (formR n rs), rhD (leastP n2 rs2) (formR n2 rs2)])) x16 (va (scD [.pl (.keep (leastP n rs) (formR n rs))])) (va (scD [.pl (.strike (leastP n rs) (formR n rs))])) x19 x20) (rhD p ts) ∧ Can p ts ∧ (∀ x, has p ts x ↔ has (leastP n rs) (formR n rs) x ∧ has (leastP n2 rs2) (formR n2 rs2) x) ∧ p ∣ 12 := fun x19 x20 =>
    RE.and (L := 12) hc (by decide) (by decide) ⟨_, _, bIx0 (Det.var rfl), c1, fun x => Iff.rfl, q1⟩ ⟨_, _, bIx1 (Det.var rfl), c2, fun x => Iff.rfl, q2⟩
  obtain ⟨p, ts, dm, cm, hm', lm⟩ := g2 x19 x20
  have km := ok_keep cm.wf lm
  have e15 : (sPar 19 20 (aCons (mk "Script" (sem_Script___init__ cs) [] 1 (aCons (lstD (aCons (tupD (aCons (rC (.str "keep")) (aCons (bin ixD (rVar 15) (rC (.int 0))) aNil))) (aCons (tupD (aCons (rC (.str "keep")) (aCons (bin ixD (rVar 15) (rC (.int 1))) aNil))) aNil))) aNil)) (aCons (mk "Script" (sem_Script___init__ cs) [] 1 (aCons (lstD (aCons (tupD (aCons (rC (.str "keep")) (aCons (bin (opOwn "Rhythm" (sem_Rhythm___and__ cs)) (bin ixD (rVar 15) (rC (.int 0))) (bin ixD (rVar 15) (rC (.int 1)))) aNil))) aNil)) aNil)) aNil)) : Env → M DrS Flw) (E11 ns (va tn) (some (.own [rhM n rs, rhM n2 rs2])) (va (scD (reals xs))) (va (scD (reals ys))) (va (scD (reals xs ++ reals ys))) z7 (va (.lst (us.map Pl.mD))) x9 (va (scD [.since (-100) (us.map Pl.real)])) (va (scD ((us.map Pl.real).map Stp.pl))) (va (.int a)) (va (.int b)) (va (scD [.pl (.shift (a + b))])) (va (.lst [rhD (leastP n rs) (formR n rs), rhD (leastP n2 rs2) (formR n2 rs2)])) x16 (va (scD [.pl (.keep (leastP n rs) (formR n rs))])) (va (scD [.pl (.strike (leastP n rs) (formR n rs))])) x19 x20) s6 = .ok (.nx (E11 ns (va tn) (some (.own [rhM n rs, rhM n2 rs2])) (va (scD (reals xs))) (va (scD (reals ys))) (va (scD (reals xs ++ reals ys))) z7 (va (.lst (us.map Pl.mD))) x9 (va (scD [.since (-100) (us.map Pl.real)])) (va (scD ((us.map Pl.real).map Stp.pl))) (va (.int a)) (va (.int b)) (va (scD [.pl (.shift (a + b))])) (va (.lst [rhD (leastP n rs) (formR n rs), rhD (leastP n2 rs2) (formR n2 rs2)])) x16 (va (scD [.pl (.keep (leastP n rs) (formR n rs))])) (va (scD [.pl (.strike (leastP n rs) (formR n rs))])) (va (scD [.pl (.keep (leastP n rs) (formR n rs)), .pl (.keep (leastP n2 rs2) (formR n2 rs2))])) (va (scD [.pl (.keep p ts)])))) s6 := by
    rw [sPar_run (aCons_of (two_sc k1.1 k2.1 (bIx0 (Det.var rfl)) (bIx1 (Det.var rfl)) s6) (aCons_of (one_sc (f := Pl.keep) (fun _ _ => rfl) km.1 dm s6) (aNil_det s6)))]
    rfl
  have t15 := fo_ne (cs := cs) (S := DrS) (env := E11 ns (va tn) (some (.own [rhM n rs, rhM n2 rs2])) (va (scD (reals xs))) (va (scD (reals ys))) (va (scD (reals xs ++ reals ys))) z7 (va (.lst (us.map Pl.mD))) x9 (va (scD [.since (-100) (us.map Pl.real)])) (va (scD ((us.map Pl.real).map Stp.pl))) (va (.int a)) (va (.int b)) (va (scD [.pl (.shift (a + b))])) (va (.lst [rhD (leastP n rs) (formR n rs), rhD (leastP n2 rs2) (formR n2 rs2)])) x16 (va (scD [.pl (.keep (leastP n rs) (formR n rs))])) (va (scD [.pl (.strike (leastP n rs) (formR n rs))])) (va (scD [.pl (.keep (leastP n rs) (formR n rs)), .pl (.keep (leastP n2 rs2) (formR n2 rs2))])) (va (scD [.pl (.keep p ts)]))) (A := [.pl (.keep (leastP n rs) (formR n rs)), .pl (.keep (leastP n2 rs2) (formR n2 rs2))]) (B := [.pl (.keep p ts)]) (τ := rVar 19) (υ := rVar 20) (pls_wf (us := [Pl.keep (leastP n rs) (formR n rs), Pl.keep (leastP n2 rs2) (formR n2 rs2)]) fun x hx => by
    rcases List.mem_cons.mp hx with rfl | hx
    · exact k1.1
    · rw [List.mem_singleton] at hx; subst hx; exact k2.1) (pls_wf (us := [Pl.keep p ts]) fun x hx => by rw [List.mem_singleton] at hx; subst hx; exact km.1) (.inr (by show (0 : Int) ≤ 1000000; decide)) (Det.var rfl) (Det.var rfl) fun d hd => met_fate hm' d
  -- the last look
  have mk1 : Ms 84 1 [Stp.pl (.keep n rs)] := Ms.one (x := .pl (.keep n rs)) hw (Int.dvd_trans hd (by decide)) (by show 1 ≤ 1; decide)
  have mks : Ms 84 2 ([Stp.pl (.keep n rs)] ++ [Stp.pl (.strike n rs)]) := mk1.app (Ms.one (m := 1) (x := .pl (.strike n rs)) hw (Int.dvd_trans hd (by decide)) (by show 1 ≤ 1; decide))
  have s12 := ((hm.app mk1).scr (by decide) r84)
  have rA : ∀ l m : List Stp, reals (l ++ m) = reals l ++ reals m := fun l m => List.map_append
  rw [rA, rA] at s12
  have sks := mks.scr (by decide) r84
  rw [rA] at sks
  have sBK := ((hmy.app mk1).scr (by decide) r84)
  rw [rA] at sBK
  rw [eAB] at sAB
  have t16 := gone_det (cs := cs) (S := DrS) c1.wf (det_addSc (cs := cs) (S := DrS) (env := E11 ns (va tn) (some (.own [rhM n rs, rhM n2 rs2])) (va (scD (reals xs))) (va (scD (reals ys))) (va (scD (reals xs ++ reals ys))) z7 (va (.lst (us.map Pl.mD))) x9 (va (scD [.since (-100) (us.map Pl.real)])) (va (scD ((us.map Pl.real).map Stp.pl))) (va (.int a)) (va (.int b)) (va (scD [.pl (.shift (a + b))])) (va (.lst [rhD (leastP n rs) (formR n rs), rhD (leastP n2 rs2) (formR n2 rs2)])) x16 (va (scD [.pl (.keep (leastP n rs) (formR n rs))])) (va (scD [.pl (.strike (leastP n rs) (formR n rs))])) (va (scD [.pl (.keep (leastP n rs) (formR n rs)), .pl (.keep (leastP n2 rs2) (formR n2 rs2))])) (va (scD [.pl (.keep p ts)]))) (τ := rVar 17) (υ := rVar 18) sks (Det.var rfl) (Det.var rfl))
  have t17 : DetT (S := DrS) (asT (bin (orD (neOwn "Script" (sem_Script___eq__ cs)) (eqD true) fun d _ => isIns d) (bin (opOwn "Script" (sem_Script___add__ cs)) (bin (opOwn "Script" (sem_Script___add__ cs)) (rVar 4) (rVar 5)) (rVar 17)) (bin (opOwn "Script" (sem_Script___add__ cs)) (rVar 4) (bin (opOwn "Script" (sem_Script___add__ cs)) (rVar 5) (rVar 17))))) (E11 ns (va tn) (some (.own [rhM n rs, rhM n2 rs2])) (va (scD (reals xs))) (va (scD (reals ys))) (va (scD (reals xs ++ reals ys))) z7 (va (.lst (us.map Pl.mD))) x9 (va (scD [.since (-100) (us.map Pl.real)])) (va (scD ((us.map Pl.real).map Stp.pl))) (va (.int a)) (va (.int b)) (va (scD [.pl (.shift (a + b))])) (va (.lst [rhD (leastP n rs) (formR n rs), rhD (leastP n2 rs2) (formR n2 rs2)])) x16 (va (scD [.pl (.keep (leastP n rs) (formR n rs))])) (va (scD [.pl (.strike (leastP n rs) (formR n rs))])) (va (scD [.pl (.keep (leastP n rs) (formR n rs)), .pl (.keep (leastP n2 rs2) (formR n2 rs2))])) (va (scD [.pl (.keep p ts)]))) false := by
    have l := det_addSc (cs := cs) (S := DrS) (env := E11 ns (va tn) (some (.own [rhM n rs, rhM n2 rs2])) (va (scD (reals xs))) (va (scD (reals ys))) (va (scD (reals xs ++ reals ys))) z7 (va (.lst (us.map Pl.mD))) x9 (va (scD [.since (-100) (us.map Pl.real)])) (va (scD ((us.map Pl.real).map Stp.pl))) (va (.int a)) (va (.int b)) (va (scD [.pl (.shift (a + b))])) (va (.lst [rhD (leastP n rs) (formR n rs), rhD (leastP n2 rs2) (formR n2 rs2)])) x16 (va (scD [.pl (.keep (leastP n rs) (formR n rs))])) (va (scD [.pl (.strike (leastP n rs) (formR n rs))])) (va (scD [.pl (.keep (leastP n rs) (formR n rs)), .pl (.keep (leastP n2 rs2) (formR n2 rs2))])) (va (scD [.pl (.keep p ts)]))) (υ := rVar 17) s12 (det_addSc (cs := cs) (τ := rVar 4) (υ := rVar 5) sAB (Det.var rfl) (Det.var rfl)) (Det.var rfl)
    have r := det_addSc (cs := cs) (S := DrS) (env := E11 ns (va tn) (some (.own [rhM n rs, rhM n2 rs2])) (va (scD (reals xs))) (va (scD (reals ys))) (va (scD (reals xs ++ reals ys))) z7 (va (.lst (us.map Pl.mD))) x9 (va (scD [.since (-100) (us.map Pl.real)])) (va (scD ((us.map Pl.real).map Stp.pl))) (va (.int a)) (va (.int b)) (va (scD [.pl (.shift (a + b))])) (va (.lst [rhD (leastP n rs) (formR n rs), rhD (leastP n2 rs2) (formR n2 rs2)])) x16 (va (scD [.pl (.keep (leastP n rs) (formR n rs))])) (va (scD [.pl (.strike (leastP n rs) (formR n rs))])) (va (scD [.pl (.keep (leastP n rs) (formR n rs)), .pl (.keep (leastP n2 rs2) (formR n2 rs2))])) (va (scD [.pl (.keep p ts)]))) (τ := rVar 4) (by rw [← List.append_assoc]; exact s12) (Det.var rfl) (det_addSc (cs := cs) (τ := rVar 5) (υ := rVar 17) sBK (Det.var rfl) (Det.var rfl))
    rw [← List.append_assoc] at r
    exact DetT.as (Det.bin l r fun s => neq11 hc _)
  refine ⟨_, s6, seq_of e0 (seq_of ei (seq_of e3 (seq_asg e4 (seq_of e5 (seq_asg e6 (seq_of e7 (skp (since_if hu un (by omega) rfl rfl s3) (seq_of e8 (seq_asg (added_det ha hb' rfl rfl s4) (skp (shift_if ha hb' rfl rfl rfl s4) (skp (still_if hmx rfl s4) (seq_of e11 (seq_asg e12 (seq_of e13 (seq_of e14 (seq_of e15 (skp (t15 s6) (if_f (or_f (t16 s6) (t17 s6)) rfl)))))))))))))))))), _, rfl, _, _, _, _, _, _, _, _, _, _, _, _, _, _, _, _, _, _, _, rfl⟩
end
end DL
set_option Elab.async false
set_option linter.all false
set_option maxRecDepth 100000
set_option maxHeartbeats 400000
set_option autoImplicit false
/-! DL: x = a comprehension over a list of one's own -/
namespace DL
open PySem PySem.Spec PyProof.Rows L2
section
variable {S : Type} {X : Cx} {F : Fx S}
variable {elt tg iter : Expr} {ifs : List Expr} {scope : Scope} {own : List (Str × Nat)} {pos spos : Pos} {g : TG} {ι : Env → M S (List D)} {γ : D → Env → M S Env} {t : Env → M S Bool} {e : Env → M S D}
theorem tAsgLcx_of {i : Nat} (gw : GW F.calm (own.map (·.2)) g γ) (D : Ends) (σ : L2.St) (H : Hp) (h : tS F (sAsg (cmp (own.map (·.2)) ι γ t e) (gNm i)) D σ H) : tAsg (tLc (tIx F ι) g (tT F.calm t) (tE F.calm e) (own.map (·.2))) (gName i) D σ H := by
  obtain ⟨G, env, s, st, p⟩ := h
  refine tLcx_of gw σ H _ (seqE st p fun d s1 v G1 H1 e1 st1 r1 p1 => ?_)
  exact p1 _ G1 H1 e1.g (st1.set i r1)
theorem ds_setLcx {i : Nat} {y : Str} {py : Pos} (hc : X.calm = true) (hN : X.N.Nodup) (hy : X.N[i]? = some y) (hyl : X.env.scope.names.lookup y = some .local)
    (hsw : swapsWith (.ListComp elt [⟨tg, iter, ifs, 0⟩] scope pos) (some (.Name y py)) spos.line X.env = pure true) (hi : PI X tg iter (tIx F ι)) (ok : BlkOk X.N X.env.scope scope own) (gw : GW F.calm (own.map (·.2)) g γ)
    (hg : ∀ (s : Shared) (H : Hp) (C : Addr) (cl : List (Str × Addr)) (fp : List Addr), PG (X.blk s H scope (compEnvC scope cl C X.env) fp) tg g) (ht : ∀ (s : Shared) (H : Hp) (C : Addr) (cl : List (Str × Addr)) (fp : List Addr), PTs (X.blk s H scope (compEnvC scope cl C X.env) fp) ifs (tT F.calm t))
    (he : ∀ (s : Shared) (H : Hp) (C : Addr) (cl : List (Str × Addr)) (fp : List Addr), PE (X.blk s H scope (compEnvC scope cl C X.env) fp) elt (tE F.calm e)) (hs : ∀ x, foldedSetIterable iter X.env x = pure x := by intro _; rfl) :
    PS X (.Assign [.Name y py] (.ListComp elt [⟨tg, iter, ifs, 0⟩] scope pos) spos) (tS F (sAsg (cmp (own.map (·.2)) ι γ t e) (gNm i))) := ps_mono (ps_setLc hc hN hy hyl hsw hi ok hg ht he hs) (tAsgLcx_of gw)
end
end DL
set_option Elab.async false
set_option linter.all false
set_option maxRecDepth 100000
set_option maxHeartbeats 4000000
set_option autoImplicit false
namespace DL
open PySem PySem.Spec PyProof.Rows L2 Rh
abbrev NE__law_mixed : List Str := ["_law_draw", "_law_turn", "_law_found", "_law_prime", "_law_blend", "_law_cell"]
abbrev NE__law_take : List Str := ["_law_draw", "_law_many", "_law_found"]
abbrev NE__law_pick : List Str := ["_law_draw", "_law_some"]
abbrev NE__law_day : List Str := ["_law_draw", "_law_wide", "_law_some"]
abbrev NE__law_rhythm : List Str := ["_law_draw", "_law_base", "_law_size", "_law_one", "_law_odds", "_law_rest"]
abbrev NE__law_plain_step : List Str := ["_law_draw", "_law_base", "_law_wide", "_law_word"]
abbrev NE__law_steps : List Str := ["_law_draw", "_law_most", "_law_wide", "_law_has_new", "_law_base", "_law_found", "_law_turn", "_law_way", "_law_first", "_law_last", "_law_step", "_law_inner", "_law_more"]
abbrev NE__law_flat : List Str := ["_law_steps_here", "_law_found", "_law_step"]
abbrev NE_is_list : List Str := ["thing"]
abbrev NE_is_number : List Str := ["thing"]
abbrev NE_is_step_number : List Str := ["thing"]
abbrev NE_is_plain_step : List Str := ["thing"]
abbrev NE_is_add : List Str := ["thing"]
abbrev NE_is_since : List Str := ["thing", "step"]
abbrev NE_is_step : List Str := ["thing"]
abbrev NE_flat : List Str := ["steps", "found", "step"]
abbrev NE_common : List Str := ["one", "other", "left", "right"]
abbrev NE_Rhythm_size : List Str := ["self"]
abbrev NE_common_round : List Str := ["rhythms", "found", "rhythm"]
abbrev NE_round_of : List Str := ["steps", "step"]
abbrev NE_need_few : List Str := ["steps"]
abbrev NE_Script___init__ : List Str := ["self", "steps", "at", "step"]
abbrev NE_are_different : List Str := ["thing", "least", "most", "item"]
abbrev NE_repeats : List Str := ["size", "rests", "part", "rest"]
abbrev NE_least_form : List Str := ["size", "rests", "parts", "part", "rest"]
abbrev NE_Rhythm___init__ : List Str := ["self", "size", "rests"]
abbrev NE__law_real1 : List Str := ["_law_step", "_law_inner"]
abbrev NE__law_real2 : List Str := ["_law_step", "_law_inner"]
abbrev NE__law_made : List Str := ["_law_steps_here", "_law_step"]
abbrev NE_Script___add__ : List Str := ["self", "other"]
abbrev NE_Rhythm___contains__ : List Str := ["self", "day"]
abbrev NE_holds : List Str := ["step", "day", "word"]
abbrev NE_behind1 : List Str := ["step", "day"]
abbrev NE_behind_all1 : List Str := ["steps", "day", "step"]
abbrev NE_behind2 : List Str := ["step", "day"]
abbrev NE_behind_all2 : List Str := ["steps", "day", "step"]
abbrev NE_Script___call__ : List Str := ["self", "day"]
abbrev NE__law_fates_of : List Str := ["_law_made_here", "_law_date"]
abbrev NE_Rhythm___and__ : List Str := ["self", "other", "size", "day"]
abbrev NE_Rhythm___eq__ : List Str := ["self", "other"]
abbrev NE_Script___eq__ : List Str := ["self", "other"]
theorem rfn__law_mixed {cells : List Int} : Rfn (S := DrS) (sem__law_mixed cells) (runB (rd__law_mixed cells) NE__law_mixed) := fun _ _ _ => rfl
theorem rfn__law_take {cells : List Int} : Rfn (S := DrS) (sem__law_take cells) (runB (rd__law_take cells) NE__law_take) := fun _ _ _ => rfl
theorem rfn__law_pick {cells : List Int} : Rfn (S := DrS) (sem__law_pick cells) (runB (rd__law_pick cells) NE__law_pick) := fun _ _ _ => rfl
theorem rfn__law_day {cells : List Int} : Rfn (S := DrS) (sem__law_day cells) (runB (rd__law_day cells) NE__law_day) := fun _ _ _ => rfl
theorem rfn__law_rhythm {cells : List Int} : Rfn (S := DrS) (sem__law_rhythm cells) (runB (rd__law_rhythm cells) NE__law_rhythm) := fun _ _ _ => rfl
theorem rfn__law_plain_step {cells : List Int} : Rfn (S := DrS) (sem__law_plain_step cells) (runB (rd__law_plain_step cells) NE__law_plain_step) := fun _ _ _ => rfl
theorem rfn__law_steps {cells : List Int} : Rfn (S := DrS) (sem__law_steps cells) (runB (rd__law_steps cells) NE__law_steps) := fun _ _ _ => rfl
theorem rfn__law_flat {S : Type} : Rfn (S := S) (sem__law_flat) (runB (rd__law_flat) NE__law_flat) := fun _ _ _ => rfl
theorem rfn_is_step_number {S : Type} {cs : List Str} : Rfn (S := S) (sem_is_step_number cs) (runB (rd_is_step_number cs) NE_is_step_number) := fun _ _ _ => rfl
theorem rfn_is_plain_step {S : Type} {cs : List Str} : Rfn (S := S) (sem_is_plain_step cs) (runB (rd_is_plain_step cs) NE_is_plain_step) := fun _ _ _ => rfl
theorem rfn_is_add {S : Type} {cs : List Str} : Rfn (S := S) (sem_is_add cs) (runB (rd_is_add cs) NE_is_add) := fun _ _ _ => rfl
theorem rfn_is_since {S : Type} {cs : List Str} : Rfn (S := S) (sem_is_since cs) (runB (rd_is_since cs) NE_is_since) := fun _ _ _ => rfl
theorem rfn_is_step {S : Type} {cs : List Str} : Rfn (S := S) (sem_is_step cs) (runB (rd_is_step cs) NE_is_step) := fun _ _ _ => rfl
theorem rfn_flat {S : Type} : Rfn (S := S) (sem_flat) (runB (rd_flat) NE_flat) := fun _ _ _ => rfl
theorem rfn_common_round {S : Type} : Rfn (S := S) (sem_common_round) (runB (rd_common_round) NE_common_round) := fun _ _ _ => rfl
theorem rfn_round_of {S : Type} : Rfn (S := S) (sem_round_of) (runB (rd_round_of) NE_round_of) := fun _ _ _ => rfl
theorem rfn_need_few {S : Type} : Rfn (S := S) (sem_need_few) (runB (rd_need_few) NE_need_few) := fun _ _ _ => rfl
theorem rfn_Script___init__ {S : Type} {cs : List Str} : RfnI (S := S) (sem_Script___init__ cs) (runI (rd_Script___init__ cs) "Script" NE_Script___init__) := fun _ _ _ => rfl
theorem rfn__law_real1 {S : Type} {cs : List Str} : Rfn (S := S) (sem__law_real1 cs) (runB (rd__law_real1 cs) NE__law_real1) := fun _ _ _ => rfl
theorem rfn__law_real2 {S : Type} {cs : List Str} : Rfn (S := S) (sem__law_real2 cs) (runB (rd__law_real2 cs) NE__law_real2) := fun _ _ _ => rfl
theorem rfn__law_made {S : Type} {cs : List Str} : Rfn (S := S) (sem__law_made cs) (runB (rd__law_made cs) NE__law_made) := fun _ _ _ => rfl
theorem rfn_Script___add__ {S : Type} {cs : List Str} : Rfn (S := S) (sem_Script___add__ cs) (runB (rd_Script___add__ cs) NE_Script___add__) := fun _ _ _ => rfl
theorem rfn_holds {S : Type} {cs : List Str} : Rfn (S := S) (sem_holds cs) (runB (rd_holds cs) NE_holds) := fun _ _ _ => rfl
theorem rfn_behind1 {S : Type} {cs : List Str} : Rfn (S := S) (sem_behind1 cs) (runB (rd_behind1 cs) NE_behind1) := fun _ _ _ => rfl
theorem rfn_behind_all1 {S : Type} {cs : List Str} : Rfn (S := S) (sem_behind_all1 cs) (runB (rd_behind_all1 cs) NE_behind_all1) := fun _ _ _ => rfl
theorem rfn_behind2 {S : Type} {cs : List Str} : Rfn (S := S) (sem_behind2 cs) (runB (rd_behind2 cs) NE_behind2) := fun _ _ _ => rfl
theorem rfn_behind_all2 {S : Type} {cs : List Str} : Rfn (S := S) (sem_behind_all2 cs) (runB (rd_behind_all2 cs) NE_behind_all2) := fun _ _ _ => rfl
theorem rfn_Script___call__ {S : Type} {cs : List Str} : Rfn (S := S) (sem_Script___call__ cs) (runB (rd_Script___call__ cs) NE_Script___call__) := fun _ _ _ => rfl
theorem rfn__law_fates_of {S : Type} {cs : List Str} : Rfn (S := S) (sem__law_fates_of cs) (runB (rd__law_fates_of cs) NE__law_fates_of) := fun _ _ _ => rfl
theorem rfn_Script___eq__ {S : Type} {cs : List Str} : Rfn (S := S) (sem_Script___eq__ cs) (runB (rd_Script___eq__ cs) NE_Script___eq__) := fun _ _ _ => rfl
abbrev N__law_begun : List Str := ["_law_script", "_law_wide", "_law_cell"]
theorem sc__law_mixed : FnScope NE__law_mixed ["_law_draw"] (defScope s__law_mixed) := ⟨rfl, rfl, rfl, by decide +kernel, rfl, by decide +kernel, by decide +kernel⟩
theorem sc__law_take : FnScope NE__law_take ["_law_draw", "_law_many"] (defScope s__law_take) := ⟨rfl, rfl, rfl, by decide +kernel, rfl, by decide +kernel, by decide +kernel⟩
theorem sc__law_pick : FnScope NE__law_pick ["_law_draw", "_law_some"] (defScope s__law_pick) := ⟨rfl, rfl, rfl, by decide +kernel, rfl, by decide +kernel, by decide +kernel⟩
theorem sc__law_day : FnScope NE__law_day ["_law_draw", "_law_wide"] (defScope s__law_day) := ⟨rfl, rfl, rfl, by decide +kernel, rfl, by decide +kernel, by decide +kernel⟩
theorem sc__law_rhythm : FnScope NE__law_rhythm ["_law_draw", "_law_base"] (defScope s__law_rhythm) := ⟨rfl, rfl, rfl, by decide +kernel, rfl, by decide +kernel, by decide +kernel⟩
theorem sc__law_plain_step : FnScope NE__law_plain_step ["_law_draw", "_law_base", "_law_wide"] (defScope s__law_plain_step) := ⟨rfl, rfl, rfl, by decide +kernel, rfl, by decide +kernel, by decide +kernel⟩
theorem sc__law_steps : FnScope NE__law_steps ["_law_draw", "_law_most", "_law_wide", "_law_has_new"] (defScope s__law_steps) := ⟨rfl, rfl, rfl, by decide +kernel, rfl, by decide +kernel, by decide +kernel⟩
theorem sc__law_flat : FnScope NE__law_flat ["_law_steps_here"] (defScope s__law_flat) := ⟨rfl, rfl, rfl, by decide +kernel, rfl, by decide +kernel, by decide +kernel⟩
theorem sc_is_list : FnScope NE_is_list ["thing"] (defScope s_is_list) := ⟨rfl, rfl, rfl, by decide +kernel, rfl, by decide +kernel, by decide +kernel⟩
theorem sc_is_number : FnScope NE_is_number ["thing"] (defScope s_is_number) := ⟨rfl, rfl, rfl, by decide +kernel, rfl, by decide +kernel, by decide +kernel⟩
theorem sc_is_step_number : FnScope NE_is_step_number ["thing"] (defScope s_is_step_number) := ⟨rfl, rfl, rfl, by decide +kernel, rfl, by decide +kernel, by decide +kernel⟩
theorem sc_is_plain_step : FnScope NE_is_plain_step ["thing"] (defScope s_is_plain_step) := ⟨rfl, rfl, rfl, by decide +kernel, rfl, by decide +kernel, by decide +kernel⟩
theorem sc_is_add : FnScope NE_is_add ["thing"] (defScope s_is_add) := ⟨rfl, rfl, rfl, by decide +kernel, rfl, by decide +kernel, by decide +kernel⟩
theorem sc_is_since : FnScope NE_is_since ["thing"] (defScope s_is_since) := ⟨rfl, rfl, rfl, by decide +kernel, rfl, by decide +kernel, by decide +kernel⟩
theorem sc_is_step : FnScope NE_is_step ["thing"] (defScope s_is_step) := ⟨rfl, rfl, rfl, by decide +kernel, rfl, by decide +kernel, by decide +kernel⟩
theorem sc_flat : FnScope NE_flat ["steps"] (defScope s_flat) := ⟨rfl, rfl, rfl, by decide +kernel, rfl, by decide +kernel, by decide +kernel⟩
theorem sc_common : FnScope NE_common ["one", "other"] (defScope s_common) := ⟨rfl, rfl, rfl, by decide +kernel, rfl, by decide +kernel, by decide +kernel⟩
theorem sc_Rhythm_size : FnScope NE_Rhythm_size ["self"] (defScope s_Rhythm_size) := ⟨rfl, rfl, rfl, by decide +kernel, rfl, by decide +kernel, by decide +kernel⟩
theorem sc_common_round : FnScope NE_common_round ["rhythms"] (defScope s_common_round) := ⟨rfl, rfl, rfl, by decide +kernel, rfl, by decide +kernel, by decide +kernel⟩
theorem sc_round_of : FnScope NE_round_of ["steps"] (defScope s_round_of) := ⟨rfl, rfl, rfl, by decide +kernel, rfl, by decide +kernel, by decide +kernel⟩
theorem sc_need_few : FnScope NE_need_few ["steps"] (defScope s_need_few) := ⟨rfl, rfl, rfl, by decide +kernel, rfl, by decide +kernel, by decide +kernel⟩
theorem sc_Script___init__ : FnScope NE_Script___init__ ["self", "steps"] (defScope s_Script___init__) := ⟨rfl, rfl, rfl, by decide +kernel, rfl, by decide +kernel, by decide +kernel⟩
theorem sc_are_different : FnScope NE_are_different ["thing", "least", "most"] (defScope s_are_different) := ⟨rfl, rfl, rfl, by decide +kernel, rfl, by decide +kernel, by decide +kernel⟩
theorem sc_repeats : FnScope NE_repeats ["size", "rests", "part"] (defScope s_repeats) := ⟨rfl, rfl, rfl, by decide +kernel, rfl, by decide +kernel, by decide +kernel⟩
theorem sc_least_form : FnScope NE_least_form ["size", "rests"] (defScope s_least_form) := ⟨rfl, rfl, rfl, by decide +kernel, rfl, by decide +kernel, by decide +kernel⟩
theorem sc_Rhythm___init__ : FnScope NE_Rhythm___init__ ["self", "size", "rests"] (defScope s_Rhythm___init__) := ⟨rfl, rfl, rfl, by decide +kernel, rfl, by decide +kernel, by decide +kernel⟩
theorem sc__law_real1 : FnScope NE__law_real1 ["_law_step"] (defScope s__law_real1) := ⟨rfl, rfl, rfl, by decide +kernel, rfl, by decide +kernel, by decide +kernel⟩
theorem sc__law_real2 : FnScope NE__law_real2 ["_law_step"] (defScope s__law_real2) := ⟨rfl, rfl, rfl, by decide +kernel, rfl, by decide +kernel, by decide +kernel⟩
theorem sc__law_made : FnScope NE__law_made ["_law_steps_here"] (defScope s__law_made) := ⟨rfl, rfl, rfl, by decide +kernel, rfl, by decide +kernel, by decide +kernel⟩
theorem sc_Script___add__ : FnScope NE_Script___add__ ["self", "other"] (defScope s_Script___add__) := ⟨rfl, rfl, rfl, by decide +kernel, rfl, by decide +kernel, by decide +kernel⟩
theorem sc_Rhythm___contains__ : FnScope NE_Rhythm___contains__ ["self", "day"] (defScope s_Rhythm___contains__) := ⟨rfl, rfl, rfl, by decide +kernel, rfl, by decide +kernel, by decide +kernel⟩
theorem sc_holds : FnScope NE_holds ["step", "day"] (defScope s_holds) := ⟨rfl, rfl, rfl, by decide +kernel, rfl, by decide +kernel, by decide +kernel⟩
theorem sc_behind1 : FnScope NE_behind1 ["step", "day"] (defScope s_behind1) := ⟨rfl, rfl, rfl, by decide +kernel, rfl, by decide +kernel, by decide +kernel⟩
theorem sc_behind_all1 : FnScope NE_behind_all1 ["steps", "day"] (defScope s_behind_all1) := ⟨rfl, rfl, rfl, by decide +kernel, rfl, by decide +kernel, by decide +kernel⟩
theorem sc_behind2 : FnScope NE_behind2 ["step", "day"] (defScope s_behind2) := ⟨rfl, rfl, rfl, by decide +kernel, rfl, by decide +kernel, by decide +kernel⟩
theorem sc_behind_all2 : FnScope NE_behind_all2 ["steps", "day"] (defScope s_behind_all2) := ⟨rfl, rfl, rfl, by decide +kernel, rfl, by decide +kernel, by decide +kernel⟩
theorem sc_Script___call__ : FnScope NE_Script___call__ ["self", "day"] (defScope s_Script___call__) := ⟨rfl, rfl, rfl, by decide +kernel, rfl, by decide +kernel, by decide +kernel⟩
theorem sc__law_fates_of : FnScope NE__law_fates_of ["_law_made_here"] (defScope s__law_fates_of) := ⟨rfl, rfl, rfl, by decide +kernel, rfl, by decide +kernel, by decide +kernel⟩
theorem sc_Rhythm___and__ : FnScope NE_Rhythm___and__ ["self", "other"] (defScope s_Rhythm___and__) := ⟨rfl, rfl, rfl, by decide +kernel, rfl, by decide +kernel, by decide +kernel⟩
theorem sc_Rhythm___eq__ : FnScope NE_Rhythm___eq__ ["self", "other"] (defScope s_Rhythm___eq__) := ⟨rfl, rfl, rfl, by decide +kernel, rfl, by decide +kernel, by decide +kernel⟩
theorem sc_Script___eq__ : FnScope NE_Script___eq__ ["self", "other"] (defScope s_Script___eq__) := ⟨rfl, rfl, rfl, by decide +kernel, rfl, by decide +kernel, by decide +kernel⟩
theorem sc__law_begun : FnScope N__law_begun ["_law_script"] (defScope s__law_begun) := ⟨rfl, rfl, rfl, by decide +kernel, rfl, by decide +kernel, by decide +kernel⟩
theorem sc_law : FnScope N_law ["_law_script"] (defScope s_law) := ⟨rfl, rfl, rfl, by decide +kernel, rfl, by decide +kernel, by decide +kernel⟩
structure Txt (K : PySem.W.Frag) (mg : Str → Option Value) : Prop where
  call_Script : StX.CallO K (He.ga K "Script") (He.ma K (He.ga K "Script") "__call__")
  cls_Rhythm : Cls K (He.ga K "Rhythm")
  cls_Script : Cls K (He.ga K "Script")
  first_Rhythm : PySem.W.selfFirst K (He.ga K "Rhythm") = true
  first_Script : PySem.W.selfFirst K (He.ga K "Script") = true
  free_abs : mg "abs" = none
  free_all : mg "all" = none
  free_bool : mg "bool" = none
  free_enumerate : mg "enumerate" = none
  free_int : mg "int" = none
  free_isinstance : mg "isinstance" = none
  free_len : mg "len" = none
  free_list : mg "list" = none
  free_min : mg "min" = none
  free_range : mg "range" = none
  free_set : mg "set" = none
  free_sorted : mg "sorted" = none
  free_str : mg "str" = none
  free_tuple : mg "tuple" = none
  glo_Rhythm : mg "Rhythm" = some (.ref (He.ga K "Rhythm"))
  glo_Script : mg "Script" = some (.ref (He.ga K "Script"))
  glo__law_begun : mg "_law_begun" = some (.ref (He.ga K "_law_begun"))
  glo__law_day : mg "_law_day" = some (.ref (He.ga K "_law_day"))
  glo__law_fates_of : mg "_law_fates_of" = some (.ref (He.ga K "_law_fates_of"))
  glo__law_flat : mg "_law_flat" = some (.ref (He.ga K "_law_flat"))
  glo__law_made : mg "_law_made" = some (.ref (He.ga K "_law_made"))
  glo__law_mixed : mg "_law_mixed" = some (.ref (He.ga K "_law_mixed"))
  glo__law_pick : mg "_law_pick" = some (.ref (He.ga K "_law_pick"))
  glo__law_plain_step : mg "_law_plain_step" = some (.ref (He.ga K "_law_plain_step"))
  glo__law_real : mg "_law_real" = some (.ref (He.ga K "_law_real"))
  glo__law_rhythm : mg "_law_rhythm" = some (.ref (He.ga K "_law_rhythm"))
  glo__law_steps : mg "_law_steps" = some (.ref (He.ga K "_law_steps"))
  glo__law_take : mg "_law_take" = some (.ref (He.ga K "_law_take"))
  glo_are_different : mg "are_different" = some (.ref (He.ga K "are_different"))
  glo_behind : mg "behind" = some (.ref (He.ga K "behind"))
  glo_behind_all : mg "behind_all" = some (.ref (He.ga K "behind_all"))
  glo_common : mg "common" = some (.ref (He.ga K "common"))
  glo_common_round : mg "common_round" = some (.ref (He.ga K "common_round"))
  glo_flat : mg "flat" = some (.ref (He.ga K "flat"))
  glo_holds : mg "holds" = some (.ref (He.ga K "holds"))
  glo_is_add : mg "is_add" = some (.ref (He.ga K "is_add"))
  glo_is_list : mg "is_list" = some (.ref (He.ga K "is_list"))
  glo_is_number : mg "is_number" = some (.ref (He.ga K "is_number"))
  glo_is_plain_step : mg "is_plain_step" = some (.ref (He.ga K "is_plain_step"))
  glo_is_since : mg "is_since" = some (.ref (He.ga K "is_since"))
  glo_is_step : mg "is_step" = some (.ref (He.ga K "is_step"))
  glo_is_step_number : mg "is_step_number" = some (.ref (He.ga K "is_step_number"))
  glo_least_form : mg "least_form" = some (.ref (He.ga K "least_form"))
  glo_need_few : mg "need_few" = some (.ref (He.ga K "need_few"))
  glo_repeats : mg "repeats" = some (.ref (He.ga K "repeats"))
  glo_round_of : mg "round_of" = some (.ref (He.ga K "round_of"))
  int_FARTHEST : ∃ t, mg "FARTHEST" = some (.int 100 t)
  int_MOST_ROUND : ∃ t, mg "MOST_ROUND" = some (.int 84 t)
  int_MOST_SIZE : ∃ t, mg "MOST_SIZE" = some (.int 3000 t)
  int_MOST_STEPS : ∃ t, mg "MOST_STEPS" = some (.int 12 t)
  meth_Rhythm___and__ : Meth K (He.ga K "Rhythm") "__and__" (He.ma K (He.ga K "Rhythm") "__and__")
  meth_Rhythm___contains__ : Meth K (He.ga K "Rhythm") "__contains__" (He.ma K (He.ga K "Rhythm") "__contains__")
  meth_Rhythm___eq__ : Meth K (He.ga K "Rhythm") "__eq__" (He.ma K (He.ga K "Rhythm") "__eq__")
  meth_Script___add__ : Meth K (He.ga K "Script") "__add__" (He.ma K (He.ga K "Script") "__add__")
  meth_Script___eq__ : Meth K (He.ga K "Script") "__eq__" (He.ma K (He.ga K "Script") "__eq__")
  mk_Rhythm : Mk K (He.ga K "Rhythm") (He.ma K (He.ga K "Rhythm") "__init__")
  mk_Script : Mk K (He.ga K "Script") (He.ma K (He.ga K "Script") "__init__")
  ne_Script : PySem.W.findIn K (.ref (He.ga K "Script")) "__ne__" = some (some (.builtin "object.__ne__")) ∧ PySem.W.mroIn K (He.ga K "Script") (.type "object") = some true
  noat_Rhythm_own_form : NoAttr K (He.ga K "Rhythm") "own_form"
  noat_Script_own_steps : NoAttr K (He.ga K "Script") "own_steps"
  op_Rhythm_BitAnd : PySem.W.findIn K (.ref (He.ga K "Rhythm")) (PySem.dunder (Operator.BitAnd).info.2) = some (some (.ref (He.ma K (He.ga K "Rhythm") "__and__")))
  op_Script_Add : PySem.W.findIn K (.ref (He.ga K "Script")) (PySem.dunder (Operator.Add).info.2) = some (some (.ref (He.ma K (He.ga K "Script") "__add__")))
  prop_Rhythm_size : PropOf K (He.ga K "Rhythm") "size" (He.ma K (He.ga K "Rhythm") "size") (He5.wf K (He.ga K "Rhythm") "property" "size")
  str_ADD : ∃ t, mg "ADD" = some (.str "add" t)
  str_FROM : ∃ t, mg "FROM" = some (.str "from" t)
  str_KEEP : ∃ t, mg "KEEP" = some (.str "keep" t)
  str_SHIFT : ∃ t, mg "SHIFT" = some (.str "shift" t)
  str_SINCE : ∃ t, mg "SINCE" = some (.str "since" t)
  str_STRIKE : ∃ t, mg "STRIKE" = some (.str "strike" t)
  str_UNTIL : ∃ t, mg "UNTIL" = some (.str "until" t)
  kit_own_Rhythm : ∀ {S : Type} {C : Cc S}, K = C.K → C.cad = He.ga K → KitOk C.K C.cad (fun t => PySem.W.kitOne C.K t (.ref (He.ga K "Rhythm"))) (tb_kit_own_Rhythm cs)
  kit_own_Script : ∀ {S : Type} {C : Cc S}, K = C.K → C.cad = He.ga K → KitOk C.K C.cad (fun t => PySem.W.kitOne C.K t (.ref (He.ga K "Script"))) (tb_kit_own_Script cs)
  kit_two_list_tuple : ∀ {S : Type} {C : Cc S}, K = C.K → C.cad = He.ga K → KitOk C.K C.cad (fun t => PySem.W.kitAny C.K t [.type "list", .type "tuple"]) (tb_kit_two_list_tuple cs)
  kit_ty_bool : ∀ {S : Type} {C : Cc S}, K = C.K → C.cad = He.ga K → KitOk C.K C.cad (fun t => PySem.W.kitOne C.K t (.type "bool")) (tb_kit_ty_bool cs)
  kit_ty_int : ∀ {S : Type} {C : Cc S}, K = C.K → C.cad = He.ga K → KitOk C.K C.cad (fun t => PySem.W.kitOne C.K t (.type "int")) (tb_kit_ty_int cs)
  kit_ty_str : ∀ {S : Type} {C : Cc S}, K = C.K → C.cad = He.ga K → KitOk C.K C.cad (fun t => PySem.W.kitOne C.K t (.type "str")) (tb_kit_ty_str cs)
  kit_ty_tuple : ∀ {S : Type} {C : Cc S}, K = C.K → C.cad = He.ga K → KitOk C.K C.cad (fun t => PySem.W.kitOne C.K t (.type "tuple")) (tb_kit_ty_tuple cs)
theorem dd__law_mixed {P : Program} {w : World} {K : PySem.W.Frag} {mg : Str → Option Value} {base : Heap} {Lm : LamI} {dp wl cl : Addr} {cells : List Int} {Tl : List (Addr × Str)} (hd : dp ≠ wl ∧ dp ≠ cl ∧ wl ≠ cl) (T : Txt K mg) {fd : FuncData} (Fn : Fun K "_law_mixed" "_law_mixed" s__law_mixed (He.ga K "_law_mixed") fd)
   :
  FnOk P w K mg base (L2.CX P w) 1 (He.ga K "_law_mixed") fd ["_law_draw"] (spD (drawCcL Lm K (He.ga K) dp wl cl cells Tl) 1 (sem__law_mixed cells)) := by
  have hCK : K = (drawCcL Lm K (He.ga K) dp wl cl cells Tl).K := rfl
  have hcad : (drawCcL Lm K (He.ga K) dp wl cl cells Tl).cad = He.ga K := rfl
  refine fn_body (N := NE__law_mixed) (rd := rd__law_mixed cells) Fn sc__law_mixed rfn__law_mixed fun cdv A outer s H G E hr => ?_
  have nd := sc__law_mixed.nd
  have hK : (cxOf (L2.CX P w) P w K mg base NE__law_mixed "_law_mixed" (defScope s__law_mixed) (He.ga K "_law_mixed") cdv A outer s H E).K = (fxOf (drawCcL Lm K (He.ga K) dp wl cl cells Tl) G H E).K := hCK
  have tk : Takes (cxOf (L2.CX P w) P w K mg base NE__law_mixed "_law_mixed" (defScope s__law_mixed) (He.ga K "_law_mixed") cdv A outer s H E) (fxOf (drawCcL Lm K (He.ga K) dp wl cl cells Tl) G H E).wish := takes_of rfl rfl rfl rfl
  have R := drF_ofT (L := Lm) (T := Tl) (G := G) (H := H) (E := E) (K := K) (cad := He.ga K) (cells := cells) hd
  exact (dss_cons (ds_asg (de_op or_add (od_add hK) (de_drwGet R (hu_of hr) drw_turn (de_var 0 (pv 0))) de_int) (dg_name 1 (pg_name (i := 1) nd rfl (.inl rfl))))
    (dss_cons (ds_drwSet R (hu_of hr) put_turn (de_var 0 (pv 0)) (de_var 1 (pv 1)))
    (dss_cons (ds_asg de_int (dg_name 2 (pg_name (i := 2) nd rfl (.inl rfl))))
    (dss_cons (ds_for (passes_of rfl) rfl (di_seq hK (de_lst (da_cons de_int (da_cons de_int (da_cons de_int (da_cons de_int da_nil)))))) (dg_name 3 (pg_name (i := 3) nd rfl (.inl rfl))) (dss_cons (ds_asg (de_op op_mod od_mod (de_callTy call_int1 cd_int1 rfl T.free_int (by decide +kernel) (da_cons (de_op or_add (od_add hK) (de_op op_mul od_mul (de_var 1 (pv 1)) de_int) (de_op op_fdiv od_div (de_var 3 (pv 3)) de_int)) da_nil)) (de_var 3 (pv 3))) (dg_name 4 (pg_name (i := 4) nd rfl (.inl rfl))))
    (dss_cons (ds_for (passes_of rfl) rfl (di_cells R (de_drwGet R (hu_of hr) (drw_cells R) (de_var 0 (pv 0)))) (dg_name 5 (pg_name (i := 5) nd rfl (.inl rfl))) (dss_one (ds_asg (de_op op_mod od_mod (de_callTy call_int1 cd_int1 rfl T.free_int (by decide +kernel) (da_cons (de_op or_add (od_add hK) (de_op op_mul od_mul (de_var 4 (pv 4)) de_int) (de_var 5 (pv 5))) da_nil)) (de_var 3 (pv 3))) (dg_name 4 (pg_name (i := 4) nd rfl (.inl rfl))))))
    (dss_one (ds_asg (de_op or_add (od_add hK) (de_op op_mul od_mul (de_var 2 (pv 2)) de_int) (de_op op_mod od_mod (de_callTy call_int1 cd_int1 rfl T.free_int (by decide +kernel) (da_cons (de_op op_pow od_pow (de_var 4 (pv 4)) de_int) da_nil)) (de_var 3 (pv 3)))) (dg_name 2 (pg_name (i := 2) nd rfl (.inl rfl))))))))
    (dss_one (ds_ret (de_var 2 (pv 2))))))))
theorem dd__law_take {P : Program} {w : World} {K : PySem.W.Frag} {mg : Str → Option Value} {base : Heap} {Lm : LamI} {dp wl cl : Addr} {cells : List Int} {Tl : List (Addr × Str)} (hd : dp ≠ wl ∧ dp ≠ cl ∧ wl ≠ cl) (T : Txt K mg) {fd : FuncData} (Fn : Fun K "_law_take" "_law_take" s__law_take (He.ga K "_law_take") fd)
  {fd__law_mixed : FuncData} (F__law_mixed : Fun K "_law_mixed" "_law_mixed" s__law_mixed (He.ga K "_law_mixed") fd__law_mixed) (B__law_mixed : Binds K fd__law_mixed ["_law_draw"] [])
  (G__law_mixed : FnOk P w K mg base (L2.CX P w) 1 (He.ga K "_law_mixed") fd__law_mixed ["_law_draw"] (spD (drawCcL Lm K (He.ga K) dp wl cl cells Tl) 1 (sem__law_mixed cells))) :
  FnOk P w K mg base (L2.CX P w) 2 (He.ga K "_law_take") fd ["_law_draw", "_law_many"] (spD (drawCcL Lm K (He.ga K) dp wl cl cells Tl) 2 (sem__law_take cells)) := by
  have hCK : K = (drawCcL Lm K (He.ga K) dp wl cl cells Tl).K := rfl
  have hcad : (drawCcL Lm K (He.ga K) dp wl cl cells Tl).cad = He.ga K := rfl
  refine fn_body (N := NE__law_take) (rd := rd__law_take cells) Fn sc__law_take rfn__law_take fun cdv A outer s H G E hr => ?_
  have nd := sc__law_take.nd
  have hK : (cxOf (L2.CX P w) P w K mg base NE__law_take "_law_take" (defScope s__law_take) (He.ga K "_law_take") cdv A outer s H E).K = (fxOf (drawCcL Lm K (He.ga K) dp wl cl cells Tl) G H E).K := hCK
  have tk : Takes (cxOf (L2.CX P w) P w K mg base NE__law_take "_law_take" (defScope s__law_take) (He.ga K "_law_take") cdv A outer s H E) (fxOf (drawCcL Lm K (He.ga K) dp wl cl cells Tl) G H E).wish := takes_of rfl rfl rfl rfl
  have R := drF_ofT (L := Lm) (T := Tl) (G := G) (H := H) (E := E) (K := K) (cad := He.ga K) (cells := cells) hd
  exact (dss_cons (ds_if (PW.pt (dw_and (dt_cmp (op_eqD hr.units) (od_eq hK) (de_drwGet R (hu_of hr) drw_left (de_var 0 (pv 0))) de_int (by rfl)) (dw_and1 (dt_neW R hr.units (de_drwGet R (hu_of hr) (drw_wide R) (de_var 0 (pv 0))))))) (dss_one (ds_drwSet R (hu_of hr) put_left (de_var 0 (pv 0)) (de_popW R (de_drwGet R (hu_of hr) (drw_wide R) (de_var 0 (pv 0)))))) dss_nil)
    (dss_cons (ds_if (dt_cmp (op_eqD hr.units) (od_eq hK) (de_drwGet R (hu_of hr) drw_left (de_var 0 (pv 0))) de_int (by rfl)) (dss_one (ds_drwSet R (hu_of hr) put_left (de_var 0 (pv 0)) (de_call G__law_mixed tk (hr.mono (by decide)) rfl T.glo__law_mixed F__law_mixed.kp B__law_mixed .nil DfR.nil (da_cons (de_var 0 (pv 0)) da_nil)))) dss_nil)
    (dss_cons (ds_asg (de_op op_mod od_mod (de_callTy call_int1 cd_int1 rfl T.free_int (by decide +kernel) (da_cons (de_drwGet R (hu_of hr) drw_left (de_var 0 (pv 0))) da_nil)) (de_var 1 (pv 1))) (dg_name 2 (pg_name (i := 2) nd rfl (.inl rfl))))
    (dss_cons (ds_drwSet R (hu_of hr) put_left (de_var 0 (pv 0)) (de_op op_fdiv od_div (de_drwGet R (hu_of hr) drw_left (de_var 0 (pv 0))) (de_var 1 (pv 1))))
    (dss_one (ds_ret (de_var 2 (pv 2))))))))
theorem dd__law_pick {P : Program} {w : World} {K : PySem.W.Frag} {mg : Str → Option Value} {base : Heap} {Lm : LamI} {dp wl cl : Addr} {cells : List Int} {Tl : List (Addr × Str)} (hd : dp ≠ wl ∧ dp ≠ cl ∧ wl ≠ cl) (T : Txt K mg) {fd : FuncData} (Fn : Fun K "_law_pick" "_law_pick" s__law_pick (He.ga K "_law_pick") fd)
  {fd__law_take : FuncData} (F__law_take : Fun K "_law_take" "_law_take" s__law_take (He.ga K "_law_take") fd__law_take) (B__law_take : Binds K fd__law_take ["_law_draw", "_law_many"] [])
  (G__law_take : FnOk P w K mg base (L2.CX P w) 2 (He.ga K "_law_take") fd__law_take ["_law_draw", "_law_many"] (spD (drawCcL Lm K (He.ga K) dp wl cl cells Tl) 2 (sem__law_take cells))) :
  FnOk P w K mg base (L2.CX P w) 3 (He.ga K "_law_pick") fd ["_law_draw", "_law_some"] (spD (drawCcL Lm K (He.ga K) dp wl cl cells Tl) 2 (sem__law_pick cells)) := by
  have hCK : K = (drawCcL Lm K (He.ga K) dp wl cl cells Tl).K := rfl
  have hcad : (drawCcL Lm K (He.ga K) dp wl cl cells Tl).cad = He.ga K := rfl
  refine fn_body (N := NE__law_pick) (rd := rd__law_pick cells) Fn sc__law_pick rfn__law_pick fun cdv A outer s H G E hr => ?_
  have nd := sc__law_pick.nd
  have hK : (cxOf (L2.CX P w) P w K mg base NE__law_pick "_law_pick" (defScope s__law_pick) (He.ga K "_law_pick") cdv A outer s H E).K = (fxOf (drawCcL Lm K (He.ga K) dp wl cl cells Tl) G H E).K := hCK
  have tk : Takes (cxOf (L2.CX P w) P w K mg base NE__law_pick "_law_pick" (defScope s__law_pick) (He.ga K "_law_pick") cdv A outer s H E) (fxOf (drawCcL Lm K (He.ga K) dp wl cl cells Tl) G H E).wish := takes_of rfl rfl rfl rfl
  have R := drF_ofT (L := Lm) (T := Tl) (G := G) (H := H) (E := E) (K := K) (cad := He.ga K) (cells := cells) hd
  exact (dss_one (ds_ret (de_ix ix_seq (od_ix hK) (de_var 1 (pv 1)) (de_call G__law_take tk (hr.mono (by decide)) rfl T.glo__law_take F__law_take.kp B__law_take .nil DfR.nil (da_cons (de_var 0 (pv 0)) (da_cons (de_callB call_len (cd_len hK) rfl T.free_len (by decide +kernel) (da_cons (de_var 1 (pv 1)) da_nil)) da_nil))) (fun _ _ => rfl))))
theorem dd__law_day {P : Program} {w : World} {K : PySem.W.Frag} {mg : Str → Option Value} {base : Heap} {Lm : LamI} {dp wl cl : Addr} {cells : List Int} {Tl : List (Addr × Str)} (hd : dp ≠ wl ∧ dp ≠ cl ∧ wl ≠ cl) (T : Txt K mg) {fd : FuncData} (Fn : Fun K "_law_day" "_law_day" s__law_day (He.ga K "_law_day") fd)
  {fd__law_take : FuncData} (F__law_take : Fun K "_law_take" "_law_take" s__law_take (He.ga K "_law_take") fd__law_take) (B__law_take : Binds K fd__law_take ["_law_draw", "_law_many"] [])
  (G__law_take : FnOk P w K mg base (L2.CX P w) 2 (He.ga K "_law_take") fd__law_take ["_law_draw", "_law_many"] (spD (drawCcL Lm K (He.ga K) dp wl cl cells Tl) 2 (sem__law_take cells)))
  {fd__law_pick : FuncData} (F__law_pick : Fun K "_law_pick" "_law_pick" s__law_pick (He.ga K "_law_pick") fd__law_pick) (B__law_pick : Binds K fd__law_pick ["_law_draw", "_law_some"] [])
  (G__law_pick : FnOk P w K mg base (L2.CX P w) 3 (He.ga K "_law_pick") fd__law_pick ["_law_draw", "_law_some"] (spD (drawCcL Lm K (He.ga K) dp wl cl cells Tl) 2 (sem__law_pick cells))) :
  FnOk P w K mg base (L2.CX P w) 4 (He.ga K "_law_day") fd ["_law_draw", "_law_wide"] (spD (drawCcL Lm K (He.ga K) dp wl cl cells Tl) 2 (sem__law_day cells)) := by
  have hCK : K = (drawCcL Lm K (He.ga K) dp wl cl cells Tl).K := rfl
  have hcad : (drawCcL Lm K (He.ga K) dp wl cl cells Tl).cad = He.ga K := rfl
  refine fn_body (N := NE__law_day) (rd := rd__law_day cells) Fn sc__law_day rfn__law_day fun cdv A outer s H G E hr => ?_
  have nd := sc__law_day.nd
  have hK : (cxOf (L2.CX P w) P w K mg base NE__law_day "_law_day" (defScope s__law_day) (He.ga K "_law_day") cdv A outer s H E).K = (fxOf (drawCcL Lm K (He.ga K) dp wl cl cells Tl) G H E).K := hCK
  have tk : Takes (cxOf (L2.CX P w) P w K mg base NE__law_day "_law_day" (defScope s__law_day) (He.ga K "_law_day") cdv A outer s H E) (fxOf (drawCcL Lm K (He.ga K) dp wl cl cells Tl) G H E).wish := takes_of rfl rfl rfl rfl
  have R := drF_ofT (L := Lm) (T := Tl) (G := G) (H := H) (E := E) (K := K) (cad := He.ga K) (cells := cells) hd
  exact (dss_cons (ds_asg (de_lst (da_cons (de_call G__law_take tk (hr.mono (by decide)) rfl T.glo__law_take F__law_take.kp B__law_take .nil DfR.nil (da_cons (de_var 0 (pv 0)) (da_cons (de_var 1 (pv 1)) da_nil))) (da_cons (de_call G__law_take tk (hr.mono (by decide)) rfl T.glo__law_take F__law_take.kp B__law_take .nil DfR.nil (da_cons (de_var 0 (pv 0)) (da_cons (de_var 1 (pv 1)) da_nil))) (da_cons (de_op op_sub od_sub (de_call G__law_take tk (hr.mono (by decide)) rfl T.glo__law_take F__law_take.kp B__law_take .nil DfR.nil (da_cons (de_var 0 (pv 0)) (da_cons de_int da_nil))) de_int) (da_cons de_int (da_cons (de_op op_sub od_sub (de_call G__law_take tk (hr.mono (by decide)) rfl T.glo__law_take F__law_take.kp B__law_take .nil DfR.nil (da_cons (de_var 0 (pv 0)) (da_cons de_int da_nil))) de_int) da_nil)))))) (dg_name 2 (pg_name (i := 2) nd rfl (.inl rfl))))
    (dss_one (ds_ret (de_call G__law_pick tk (hr.mono (by decide)) rfl T.glo__law_pick F__law_pick.kp B__law_pick .nil DfR.nil (da_cons (de_var 0 (pv 0)) (da_cons (de_var 2 (pv 2)) da_nil))))))
theorem dd__law_rhythm {P : Program} {w : World} {K : PySem.W.Frag} {mg : Str → Option Value} {base : Heap} {Lm : LamI} {dp wl cl : Addr} {cells : List Int} {Tl : List (Addr × Str)} (hd : dp ≠ wl ∧ dp ≠ cl ∧ wl ≠ cl) (T : Txt K mg) {fd : FuncData} (Fn : Fun K "_law_rhythm" "_law_rhythm" s__law_rhythm (He.ga K "_law_rhythm") fd)
  {fd__law_pick : FuncData} (F__law_pick : Fun K "_law_pick" "_law_pick" s__law_pick (He.ga K "_law_pick") fd__law_pick) (B__law_pick : Binds K fd__law_pick ["_law_draw", "_law_some"] [])
  (G__law_pick : FnOk P w K mg base (L2.CX P w) 3 (He.ga K "_law_pick") fd__law_pick ["_law_draw", "_law_some"] (spD (drawCcL Lm K (He.ga K) dp wl cl cells Tl) 2 (sem__law_pick cells)))
  {fd__law_take : FuncData} (F__law_take : Fun K "_law_take" "_law_take" s__law_take (He.ga K "_law_take") fd__law_take) (B__law_take : Binds K fd__law_take ["_law_draw", "_law_many"] [])
  (G__law_take : FnOk P w K mg base (L2.CX P w) 2 (He.ga K "_law_take") fd__law_take ["_law_draw", "_law_many"] (spD (drawCcL Lm K (He.ga K) dp wl cl cells Tl) 2 (sem__law_take cells))) :
  FnOk P w K mg base (L2.CX P w) 4 (He.ga K "_law_rhythm") fd ["_law_draw", "_law_base"] (spD (drawCcL Lm K (He.ga K) dp wl cl cells Tl) 2 (sem__law_rhythm cells)) := by
  have hCK : K = (drawCcL Lm K (He.ga K) dp wl cl cells Tl).K := rfl
  have hcad : (drawCcL Lm K (He.ga K) dp wl cl cells Tl).cad = He.ga K := rfl
  refine fn_body (N := NE__law_rhythm) (rd := rd__law_rhythm cells) Fn sc__law_rhythm rfn__law_rhythm fun cdv A outer s H G E hr => ?_
  have nd := sc__law_rhythm.nd
  have hK : (cxOf (L2.CX P w) P w K mg base NE__law_rhythm "_law_rhythm" (defScope s__law_rhythm) (He.ga K "_law_rhythm") cdv A outer s H E).K = (fxOf (drawCcL Lm K (He.ga K) dp wl cl cells Tl) G H E).K := hCK
  have tk : Takes (cxOf (L2.CX P w) P w K mg base NE__law_rhythm "_law_rhythm" (defScope s__law_rhythm) (He.ga K "_law_rhythm") cdv A outer s H E) (fxOf (drawCcL Lm K (He.ga K) dp wl cl cells Tl) G H E).wish := takes_of rfl rfl rfl rfl
  have R := drF_ofT (L := Lm) (T := Tl) (G := G) (H := H) (E := E) (K := K) (cad := He.ga K) (cells := cells) hd
  exact (dss_cons (ds_asg (de_call G__law_pick tk (hr.mono (by decide)) rfl T.glo__law_pick F__law_pick.kp B__law_pick .nil DfR.nil (da_cons (de_var 0 (pv 0)) (da_cons (de_lc (own := [("_law_one", 3)]) (g := gName 3) rfl nd (di_range2 rfl T.free_range (da_cons de_int (da_cons de_int da_nil))) (blkOk_by (N := NE__law_rhythm) (sc := defScope s__law_rhythm) (by decide +kernel)) (gw_name (by decide)) (fun _ _ _ _ _ => pg_name (i := 3) nd rfl (Or.inl rfl)) (fun _ _ _ _ _ => (dts_one (dt_cmp (op_eqD hr.units) (od_eq hK) (de_op op_mod od_mod (de_var 1 (pv 1)) (de_var 3 (pv 3))) de_int (by rfl)))) (fun _ _ _ _ _ => (de_var 3 (pv 3)))) da_nil))) (dg_name 2 (pg_name (i := 2) nd rfl (.inl rfl))))
    (dss_cons (ds_asg (de_call G__law_pick tk (hr.mono (by decide)) rfl T.glo__law_pick F__law_pick.kp B__law_pick .nil DfR.nil (da_cons (de_var 0 (pv 0)) (da_cons (de_lst (da_cons de_int (da_cons de_int (da_cons de_int (da_cons de_int da_nil))))) da_nil))) (dg_name 4 (pg_name (i := 4) nd rfl (.inr rfl))))
    (dss_one (ds_ret (de_tup (da_cons (de_var 2 (pv 2)) (da_cons (de_callTy call_tuple_of (cd_tuple hK) rfl T.free_tuple (by decide +kernel) (da_cons (de_lc (own := [("_law_rest", 5)]) (g := gName 5) rfl nd (di_range1 rfl T.free_range (da_cons (de_var 2 (pv 2)) da_nil)) (blkOk_by (N := NE__law_rhythm) (sc := defScope s__law_rhythm) (by decide +kernel)) (gw_name (by decide)) (fun _ _ _ _ _ => pg_name (i := 5) nd rfl (Or.inl rfl)) (fun _ _ _ _ _ => (dts_one (dt_cmp (op_eqD hr.units) (od_eq hK) (de_call G__law_take takes0 (hr.mono (by decide)) rfl T.glo__law_take F__law_take.kp B__law_take .nil DfR.nil (da_cons (de_var 0 (pv 0)) (da_cons (de_var 4 (pv 4)) da_nil))) de_int (by rfl)))) (fun _ _ _ _ _ => (de_var 5 (pv 5)))) da_nil)) da_nil)))))))
theorem dd__law_plain_step {P : Program} {w : World} {K : PySem.W.Frag} {mg : Str → Option Value} {base : Heap} {Lm : LamI} {dp wl cl : Addr} {cells : List Int} {Tl : List (Addr × Str)} (hd : dp ≠ wl ∧ dp ≠ cl ∧ wl ≠ cl) (T : Txt K mg) {fd : FuncData} (Fn : Fun K "_law_plain_step" "_law_plain_step" s__law_plain_step (He.ga K "_law_plain_step") fd)
  {fd__law_pick : FuncData} (F__law_pick : Fun K "_law_pick" "_law_pick" s__law_pick (He.ga K "_law_pick") fd__law_pick) (B__law_pick : Binds K fd__law_pick ["_law_draw", "_law_some"] [])
  (G__law_pick : FnOk P w K mg base (L2.CX P w) 3 (He.ga K "_law_pick") fd__law_pick ["_law_draw", "_law_some"] (spD (drawCcL Lm K (He.ga K) dp wl cl cells Tl) 2 (sem__law_pick cells)))
  {fd__law_take : FuncData} (F__law_take : Fun K "_law_take" "_law_take" s__law_take (He.ga K "_law_take") fd__law_take) (B__law_take : Binds K fd__law_take ["_law_draw", "_law_many"] [])
  (G__law_take : FnOk P w K mg base (L2.CX P w) 2 (He.ga K "_law_take") fd__law_take ["_law_draw", "_law_many"] (spD (drawCcL Lm K (He.ga K) dp wl cl cells Tl) 2 (sem__law_take cells)))
  {fd__law_rhythm : FuncData} (F__law_rhythm : Fun K "_law_rhythm" "_law_rhythm" s__law_rhythm (He.ga K "_law_rhythm") fd__law_rhythm) (B__law_rhythm : Binds K fd__law_rhythm ["_law_draw", "_law_base"] [])
  (G__law_rhythm : FnOk P w K mg base (L2.CX P w) 4 (He.ga K "_law_rhythm") fd__law_rhythm ["_law_draw", "_law_base"] (spD (drawCcL Lm K (He.ga K) dp wl cl cells Tl) 2 (sem__law_rhythm cells)))
  {fd__law_day : FuncData} (F__law_day : Fun K "_law_day" "_law_day" s__law_day (He.ga K "_law_day") fd__law_day) (B__law_day : Binds K fd__law_day ["_law_draw", "_law_wide"] [])
  (G__law_day : FnOk P w K mg base (L2.CX P w) 4 (He.ga K "_law_day") fd__law_day ["_law_draw", "_law_wide"] (spD (drawCcL Lm K (He.ga K) dp wl cl cells Tl) 2 (sem__law_day cells))) :
  FnOk P w K mg base (L2.CX P w) 5 (He.ga K "_law_plain_step") fd ["_law_draw", "_law_base", "_law_wide"] (spD (drawCcL Lm K (He.ga K) dp wl cl cells Tl) 3 (sem__law_plain_step cells)) := by
  have hCK : K = (drawCcL Lm K (He.ga K) dp wl cl cells Tl).K := rfl
  have hcad : (drawCcL Lm K (He.ga K) dp wl cl cells Tl).cad = He.ga K := rfl
  refine fn_body (N := NE__law_plain_step) (rd := rd__law_plain_step cells) Fn sc__law_plain_step rfn__law_plain_step fun cdv A outer s H G E hr => ?_
  have nd := sc__law_plain_step.nd
  have hK : (cxOf (L2.CX P w) P w K mg base NE__law_plain_step "_law_plain_step" (defScope s__law_plain_step) (He.ga K "_law_plain_step") cdv A outer s H E).K = (fxOf (drawCcL Lm K (He.ga K) dp wl cl cells Tl) G H E).K := hCK
  have tk : Takes (cxOf (L2.CX P w) P w K mg base NE__law_plain_step "_law_plain_step" (defScope s__law_plain_step) (He.ga K "_law_plain_step") cdv A outer s H E) (fxOf (drawCcL Lm K (He.ga K) dp wl cl cells Tl) G H E).wish := takes_of rfl rfl rfl rfl
  have R := drF_ofT (L := Lm) (T := Tl) (G := G) (H := H) (E := E) (K := K) (cad := He.ga K) (cells := cells) hd
  exact (dss_cons (ds_asg (de_call G__law_pick tk (hr.mono (by decide)) rfl T.glo__law_pick F__law_pick.kp B__law_pick .nil DfR.nil (da_cons (de_var 0 (pv 0)) (da_cons (de_lst (da_cons de_str (da_cons de_str (da_cons de_str (da_cons de_str (da_cons de_str (da_cons de_str (da_cons de_str da_nil)))))))) da_nil))) (dg_name 3 (pg_name (i := 3) nd rfl (.inl rfl))))
    (dss_cons (ds_if (dt_cmp (op_eqD hr.units) (od_eq hK) (de_var 3 (pv 3)) de_str (by rfl)) (dss_one (ds_ret (de_tup (da_cons (de_var 3 (pv 3)) (da_cons (de_call G__law_pick tk (hr.mono (by decide)) rfl T.glo__law_pick F__law_pick.kp B__law_pick .nil DfR.nil (da_cons (de_var 0 (pv 0)) (da_cons (de_lst (da_cons de_int (da_cons (de_neg de_int) (da_cons de_int (da_cons (de_neg de_int) (da_cons de_int (da_cons (de_op op_sub od_sub (de_call G__law_take tk (hr.mono (by decide)) rfl T.glo__law_take F__law_take.kp B__law_take .nil DfR.nil (da_cons (de_var 0 (pv 0)) (da_cons de_int da_nil))) de_int) da_nil))))))) da_nil))) da_nil))))) dss_nil)
    (dss_cons (ds_if (dt_cmp op_in_seq (od_in false hK) (de_var 3 (pv 3)) (de_tup (da_cons de_str (da_cons de_str da_nil))) (by rfl)) (dss_one (ds_ret (de_tup (da_cons (de_var 3 (pv 3)) (da_cons (de_call G__law_rhythm tk (hr.mono (by decide)) rfl T.glo__law_rhythm F__law_rhythm.kp B__law_rhythm .nil DfR.nil (da_cons (de_var 0 (pv 0)) (da_cons (de_var 1 (pv 1)) da_nil))) da_nil))))) dss_nil)
    (dss_one (ds_ret (de_tup (da_cons (de_var 3 (pv 3)) (da_cons (de_call G__law_day tk (hr.mono (by decide)) rfl T.glo__law_day F__law_day.kp B__law_day .nil DfR.nil (da_cons (de_var 0 (pv 0)) (da_cons (de_var 2 (pv 2)) da_nil))) da_nil))))))))
theorem dd__law_steps {P : Program} {w : World} {K : PySem.W.Frag} {mg : Str → Option Value} {base : Heap} {Lm : LamI} {dp wl cl : Addr} {cells : List Int} {Tl : List (Addr × Str)} (hd : dp ≠ wl ∧ dp ≠ cl ∧ wl ≠ cl) (T : Txt K mg) {fd : FuncData} (Fn : Fun K "_law_steps" "_law_steps" s__law_steps (He.ga K "_law_steps") fd)
  {fd__law_pick : FuncData} (F__law_pick : Fun K "_law_pick" "_law_pick" s__law_pick (He.ga K "_law_pick") fd__law_pick) (B__law_pick : Binds K fd__law_pick ["_law_draw", "_law_some"] [])
  (G__law_pick : FnOk P w K mg base (L2.CX P w) 3 (He.ga K "_law_pick") fd__law_pick ["_law_draw", "_law_some"] (spD (drawCcL Lm K (He.ga K) dp wl cl cells Tl) 2 (sem__law_pick cells)))
  {fd__law_take : FuncData} (F__law_take : Fun K "_law_take" "_law_take" s__law_take (He.ga K "_law_take") fd__law_take) (B__law_take : Binds K fd__law_take ["_law_draw", "_law_many"] [])
  (G__law_take : FnOk P w K mg base (L2.CX P w) 2 (He.ga K "_law_take") fd__law_take ["_law_draw", "_law_many"] (spD (drawCcL Lm K (He.ga K) dp wl cl cells Tl) 2 (sem__law_take cells)))
  {fd__law_day : FuncData} (F__law_day : Fun K "_law_day" "_law_day" s__law_day (He.ga K "_law_day") fd__law_day) (B__law_day : Binds K fd__law_day ["_law_draw", "_law_wide"] [])
  (G__law_day : FnOk P w K mg base (L2.CX P w) 4 (He.ga K "_law_day") fd__law_day ["_law_draw", "_law_wide"] (spD (drawCcL Lm K (He.ga K) dp wl cl cells Tl) 2 (sem__law_day cells)))
  {fd__law_rhythm : FuncData} (F__law_rhythm : Fun K "_law_rhythm" "_law_rhythm" s__law_rhythm (He.ga K "_law_rhythm") fd__law_rhythm) (B__law_rhythm : Binds K fd__law_rhythm ["_law_draw", "_law_base"] [])
  (G__law_rhythm : FnOk P w K mg base (L2.CX P w) 4 (He.ga K "_law_rhythm") fd__law_rhythm ["_law_draw", "_law_base"] (spD (drawCcL Lm K (He.ga K) dp wl cl cells Tl) 2 (sem__law_rhythm cells)))
  {fd__law_plain_step : FuncData} (F__law_plain_step : Fun K "_law_plain_step" "_law_plain_step" s__law_plain_step (He.ga K "_law_plain_step") fd__law_plain_step) (B__law_plain_step : Binds K fd__law_plain_step ["_law_draw", "_law_base", "_law_wide"] [])
  (G__law_plain_step : FnOk P w K mg base (L2.CX P w) 5 (He.ga K "_law_plain_step") fd__law_plain_step ["_law_draw", "_law_base", "_law_wide"] (spD (drawCcL Lm K (He.ga K) dp wl cl cells Tl) 3 (sem__law_plain_step cells))) :
  FnOk P w K mg base (L2.CX P w) 6 (He.ga K "_law_steps") fd ["_law_draw", "_law_most", "_law_wide", "_law_has_new"] (spD (drawCcL Lm K (He.ga K) dp wl cl cells Tl) 4 (sem__law_steps cells)) := by
  have hCK : K = (drawCcL Lm K (He.ga K) dp wl cl cells Tl).K := rfl
  have hcad : (drawCcL Lm K (He.ga K) dp wl cl cells Tl).cad = He.ga K := rfl
  refine fn_body (N := NE__law_steps) (rd := rd__law_steps cells) Fn sc__law_steps rfn__law_steps fun cdv A outer s H G E hr => ?_
  have nd := sc__law_steps.nd
  have hK : (cxOf (L2.CX P w) P w K mg base NE__law_steps "_law_steps" (defScope s__law_steps) (He.ga K "_law_steps") cdv A outer s H E).K = (fxOf (drawCcL Lm K (He.ga K) dp wl cl cells Tl) G H E).K := hCK
  have tk : Takes (cxOf (L2.CX P w) P w K mg base NE__law_steps "_law_steps" (defScope s__law_steps) (He.ga K "_law_steps") cdv A outer s H E) (fxOf (drawCcL Lm K (He.ga K) dp wl cl cells Tl) G H E).wish := takes_of rfl rfl rfl rfl
  have R := drF_ofT (L := Lm) (T := Tl) (G := G) (H := H) (E := E) (K := K) (cad := He.ga K) (cells := cells) hd
  exact (dss_cons (ds_parO rfl (de_call G__law_pick tk (hr.mono (by decide)) rfl T.glo__law_pick F__law_pick.kp B__law_pick .nil DfR.nil (da_cons (de_var 0 (pv 0)) (da_cons (de_lst (da_cons de_int (da_cons de_int (da_cons de_int (da_cons de_int (da_cons de_int (da_cons de_int (da_cons de_int (da_cons de_int da_nil))))))))) da_nil))) (pg_name (i := 4) nd rfl (.inr rfl)) (pg_name (i := 5) nd rfl (.inl rfl)))
    (dss_cons (ds_for (passes_of rfl) rfl (di_range1 rfl T.free_range (da_cons (de_call G__law_take tk (hr.mono (by decide)) rfl T.glo__law_take F__law_take.kp B__law_take .nil DfR.nil (da_cons (de_var 0 (pv 0)) (da_cons (de_op or_add (od_add hK) (de_var 1 (pv 1)) de_int) da_nil))) da_nil)) (dg_name 6 (pg_name (i := 6) nd rfl (.inl rfl))) (dss_cons (ds_asg (de_call G__law_take tk (hr.mono (by decide)) rfl T.glo__law_take F__law_take.kp B__law_take .nil DfR.nil (da_cons (de_var 0 (pv 0)) (da_cons de_int da_nil))) (dg_name 7 (pg_name (i := 7) nd rfl (.inl rfl))))
    (dss_one (ds_if (PW.pt (dw_and (dt_cmp (op_eqD hr.units) (od_eq hK) (de_var 7 (pv 7)) de_int (by rfl)) (dw_and1 (dt_val (de_var 3 (pv 3)))))) (dss_cons (ds_asg (de_call G__law_day tk (hr.mono (by decide)) rfl T.glo__law_day F__law_day.kp B__law_day .nil DfR.nil (da_cons (de_var 0 (pv 0)) (da_cons (de_var 2 (pv 2)) da_nil))) (dg_name 8 (pg_name (i := 8) nd rfl (.inl rfl))))
    (dss_cons (ds_asg (de_call G__law_pick tk (hr.mono (by decide)) rfl T.glo__law_pick F__law_pick.kp B__law_pick .nil DfR.nil (da_cons (de_var 0 (pv 0)) (da_cons (de_lst (da_cons de_non (da_cons (de_op or_add (od_add hK) (de_var 8 (pv 8)) (de_call G__law_take tk (hr.mono (by decide)) rfl T.glo__law_take F__law_take.kp B__law_take .nil DfR.nil (da_cons (de_var 0 (pv 0)) (da_cons de_int da_nil)))) (da_cons (de_var 8 (pv 8)) (da_cons (de_call G__law_day tk (hr.mono (by decide)) rfl T.glo__law_day F__law_day.kp B__law_day .nil DfR.nil (da_cons (de_var 0 (pv 0)) (da_cons (de_var 2 (pv 2)) da_nil))) da_nil))))) da_nil))) (dg_name 9 (pg_name (i := 9) nd rfl (.inl rfl))))
    (dss_one (ds_app (pv 5) (de_tup (da_cons de_str (da_cons (de_call G__law_rhythm tk (hr.mono (by decide)) rfl T.glo__law_rhythm F__law_rhythm.kp B__law_rhythm .nil DfR.nil (da_cons (de_var 0 (pv 0)) (da_cons (de_var 4 (pv 4)) da_nil))) (da_cons (de_var 8 (pv 8)) (da_cons (de_if (dt_cmp op_isN od_isN (de_var 9 (pv 9)) de_non (by rfl)) de_non (de_callB (call_min2 rfl) cd_min2 rfl T.free_min (by decide +kernel) (da_cons de_int (da_cons (de_var 9 (pv 9)) da_nil)))) da_nil))))))))) (dss_one (ds_if (PW.pt (dw_and (dt_cmp (op_eqD hr.units) (od_eq hK) (de_var 7 (pv 7)) de_int (by rfl)) (dw_and1 (dt_cmp op_lt od_lt (de_callB call_len (cd_len hK) rfl T.free_len (by decide +kernel) (da_cons (de_lcx (own := [("_law_step", 10)]) (g := gName 10) rfl nd (di_own hK (pv 5)) (blkOk_by (N := NE__law_steps) (sc := defScope s__law_steps) (by decide +kernel)) (gw_name (by decide)) (fun _ _ _ _ _ => pg_name (i := 10) nd rfl (Or.inl rfl)) (fun _ _ _ _ _ => (dts_one (dt_cmp (op_eqD hr.units) (od_eq hK) (de_ix ix_seq (od_ix hK) (de_var 10 (pv 10)) de_int (fun _ _ => rfl)) de_str (by rfl)))) (fun _ _ _ _ _ => (de_var 10 (pv 10)))) da_nil)) de_int (by rfl))))) (dss_cons (ds_setLc (i := 11) (own := [("_law_more", 12)]) (g := gName 12) rfl nd rfl rfl (sw_true rfl rfl rfl (by decide +kernel)) (di_range1 rfl T.free_range (da_cons (de_op or_add (od_add hK) de_int (de_call G__law_take tk (hr.mono (by decide)) rfl T.glo__law_take F__law_take.kp B__law_take .nil DfR.nil (da_cons (de_var 0 (pv 0)) (da_cons de_int da_nil)))) da_nil)) (blkOk_by (N := NE__law_steps) (sc := defScope s__law_steps) (by decide +kernel)) (gw_name (by decide)) (fun _ _ _ _ _ => pg_name (i := 12) nd rfl (Or.inl rfl)) (fun _ _ _ _ _ => dts_nil) (fun _ _ _ _ _ => (de_call G__law_plain_step takes0 (hr.mono (by decide)) rfl T.glo__law_plain_step F__law_plain_step.kp B__law_plain_step .nil DfR.nil (da_cons (de_var 0 (pv 0)) (da_cons (de_var 4 (pv 4)) (da_cons (de_var 2 (pv 2)) da_nil))))))
    (dss_one (ds_app (pv 5) (de_tup (da_cons de_str (da_cons (de_call G__law_day tk (hr.mono (by decide)) rfl T.glo__law_day F__law_day.kp B__law_day .nil DfR.nil (da_cons (de_var 0 (pv 0)) (da_cons (de_var 2 (pv 2)) da_nil))) (da_cons (de_callTy call_tuple_of (cd_tuple hK) rfl T.free_tuple (by decide +kernel) (da_cons (de_var 11 (pv 11)) da_nil)) da_nil))))))) (dss_one (ds_app (pv 5) (de_call G__law_plain_step tk (hr.mono (by decide)) rfl T.glo__law_plain_step F__law_plain_step.kp B__law_plain_step .nil DfR.nil (da_cons (de_var 0 (pv 0)) (da_cons (de_var 4 (pv 4)) (da_cons (de_var 2 (pv 2)) da_nil))))))))))))
    (dss_one (ds_retO (pv 5)))))
theorem dd__law_flat {P : Program} {w : World} {K : PySem.W.Frag} {mg : Str → Option Value} {base : Heap} {S : Type} {C : Cc S} (hCK : K = C.K) (hcad : C.cad = He.ga K) (T : Txt K mg) {fd : FuncData} (Fn : Fun K "_law_flat" "_law_flat" s__law_flat (He.ga K "_law_flat") fd)
   :
  FnOk P w K mg base (L2.CX P w) 1 (He.ga K "_law_flat") fd ["_law_steps_here"] (spD C 1 sem__law_flat) := by
  refine fn_body (N := NE__law_flat) (rd := rd__law_flat) Fn sc__law_flat rfn__law_flat fun cdv A outer s H G E hr => ?_
  have nd := sc__law_flat.nd
  have hK : (cxOf (L2.CX P w) P w K mg base NE__law_flat "_law_flat" (defScope s__law_flat) (He.ga K "_law_flat") cdv A outer s H E).K = (fxOf C G H E).K := hCK
  have tk : Takes (cxOf (L2.CX P w) P w K mg base NE__law_flat "_law_flat" (defScope s__law_flat) (He.ga K "_law_flat") cdv A outer s H E) (fxOf C G H E).wish := takes_of rfl rfl rfl rfl
  exact (dss_cons (ds_asg (de_lst da_nil) (dg_name 1 (pg_name (i := 1) nd rfl (.inl rfl))))
    (dss_cons (ds_for (passes_of rfl) rfl (di_seq hK (de_var 0 (pv 0))) (dg_name 2 (pg_name (i := 2) nd rfl (.inl rfl))) (dss_one (ds_asg (de_op or_add (od_add hK) (de_op or_add (od_add hK) (de_var 1 (pv 1)) (de_lst (da_cons (de_var 2 (pv 2)) da_nil))) (de_if (dt_cmp (op_eqD hr.units) (od_eq hK) (de_ix ix_seq (od_ix hK) (de_var 2 (pv 2)) de_int (fun _ _ => rfl)) de_str (by rfl)) (de_callTy call_list_of (cd_list hK) rfl T.free_list (by decide +kernel) (da_cons (de_ix ix_seq (od_ix hK) (de_var 2 (pv 2)) de_int (fun _ _ => rfl)) da_nil)) (de_lst da_nil))) (dg_name 1 (pg_name (i := 1) nd rfl (.inl rfl))))))
    (dss_one (ds_ret (de_var 1 (pv 1))))))
theorem dd_is_list {P : Program} {w : World} {K : PySem.W.Frag} {mg : Str → Option Value} {base : Heap} {S : Type} {C : Cc S} (hCK : K = C.K) (hcad : C.cad = He.ga K) (T : Txt K mg) {fd : FuncData} (Fn : Fun K "is_list" "is_list" s_is_list (He.ga K "is_list") fd)
   :
  FnOk P w K mg base (L2.CX P w) 1 (He.ga K "is_list") fd ["thing"] (spD C 1 (sem_is_list cs)) := by
  refine fn_body (N := NE_is_list) (rd := rd_is_list cs) Fn sc_is_list rfn_is_list fun cdv A outer s H G E hr => ?_
  have nd := sc_is_list.nd
  have hK : (cxOf (L2.CX P w) P w K mg base NE_is_list "is_list" (defScope s_is_list) (He.ga K "is_list") cdv A outer s H E).K = (fxOf C G H E).K := hCK
  have tk : Takes (cxOf (L2.CX P w) P w K mg base NE_is_list "is_list" (defScope s_is_list) (He.ga K "is_list") cdv A outer s H E) (fxOf C G H E).wish := takes_of rfl rfl rfl rfl
  exact (dss_one (ds_ret (de_isi2 hK (T.kit_two_list_tuple hCK hcad) (.ty _) (.ty _) (de_var 0 (pv 0)) (pe_bltn (by rfl) T.free_list (by decide +kernel) (v := .ty "list") rfl) (pe_bltn (by rfl) T.free_tuple (by decide +kernel) (v := .ty "tuple") rfl) rfl T.free_isinstance)))
theorem dd_is_number {P : Program} {w : World} {K : PySem.W.Frag} {mg : Str → Option Value} {base : Heap} {S : Type} {C : Cc S} (hCK : K = C.K) (hcad : C.cad = He.ga K) (T : Txt K mg) {fd : FuncData} (Fn : Fun K "is_number" "is_number" s_is_number (He.ga K "is_number") fd)
   :
  FnOk P w K mg base (L2.CX P w) 1 (He.ga K "is_number") fd ["thing"] (spD C 1 (sem_is_number cs)) := by
  refine fn_body (N := NE_is_number) (rd := rd_is_number cs) Fn sc_is_number rfn_is_number fun cdv A outer s H G E hr => ?_
  have nd := sc_is_number.nd
  have hK : (cxOf (L2.CX P w) P w K mg base NE_is_number "is_number" (defScope s_is_number) (He.ga K "is_number") cdv A outer s H E).K = (fxOf C G H E).K := hCK
  have tk : Takes (cxOf (L2.CX P w) P w K mg base NE_is_number "is_number" (defScope s_is_number) (He.ga K "is_number") cdv A outer s H E) (fxOf C G H E).wish := takes_of rfl rfl rfl rfl
  exact (dss_one (ds_ret (de_and hK (de_isi hK (T.kit_ty_int hCK hcad) (.ty _) (de_var 0 (pv 0)) (pe_bltn (by rfl) T.free_int (by decide +kernel) (v := .ty "int") rfl) rfl T.free_isinstance) (de_one (de_not hK (de_isi hK (T.kit_ty_bool hCK hcad) (.ty _) (de_var 0 (pv 0)) (pe_bltn (by rfl) T.free_bool (by decide +kernel) (v := .ty "bool") rfl) rfl T.free_isinstance))))))
theorem dd_is_step_number {P : Program} {w : World} {K : PySem.W.Frag} {mg : Str → Option Value} {base : Heap} {S : Type} {C : Cc S} (hCK : K = C.K) (hcad : C.cad = He.ga K) (T : Txt K mg) {fd : FuncData} (Fn : Fun K "is_step_number" "is_step_number" s_is_step_number (He.ga K "is_step_number") fd)
  {fd_is_number : FuncData} (F_is_number : Fun K "is_number" "is_number" s_is_number (He.ga K "is_number") fd_is_number) (B_is_number : Binds K fd_is_number ["thing"] [])
  (G_is_number : FnOk P w K mg base (L2.CX P w) 1 (He.ga K "is_number") fd_is_number ["thing"] (spD C 1 (sem_is_number cs))) :
  FnOk P w K mg base (L2.CX P w) 2 (He.ga K "is_step_number") fd ["thing"] (spD C 1 (sem_is_step_number cs)) := by
  refine fn_body (N := NE_is_step_number) (rd := rd_is_step_number cs) Fn sc_is_step_number rfn_is_step_number fun cdv A outer s H G E hr => ?_
  have nd := sc_is_step_number.nd
  have hK : (cxOf (L2.CX P w) P w K mg base NE_is_step_number "is_step_number" (defScope s_is_step_number) (He.ga K "is_step_number") cdv A outer s H E).K = (fxOf C G H E).K := hCK
  have tk : Takes (cxOf (L2.CX P w) P w K mg base NE_is_step_number "is_step_number" (defScope s_is_step_number) (He.ga K "is_step_number") cdv A outer s H E) (fxOf C G H E).wish := takes_of rfl rfl rfl rfl
  exact (dss_one (ds_ret (de_and hK (de_call G_is_number tk (hr.mono (by decide)) rfl T.glo_is_number F_is_number.kp B_is_number .nil DfR.nil (da_cons (de_var 0 (pv 0)) da_nil)) (de_one (de_chain op_le od_le op_le od_le (de_neg (de_gint rfl T.int_FARTHEST)) (de_var 0 (pv 0)) (de_gint rfl T.int_FARTHEST))))))
theorem dd_is_plain_step {P : Program} {w : World} {K : PySem.W.Frag} {mg : Str → Option Value} {base : Heap} {S : Type} {C : Cc S} (hCK : K = C.K) (hcad : C.cad = He.ga K) (T : Txt K mg) {fd : FuncData} (Fn : Fun K "is_plain_step" "is_plain_step" s_is_plain_step (He.ga K "is_plain_step") fd)
  {fd_is_step_number : FuncData} (F_is_step_number : Fun K "is_step_number" "is_step_number" s_is_step_number (He.ga K "is_step_number") fd_is_step_number) (B_is_step_number : Binds K fd_is_step_number ["thing"] [])
  (G_is_step_number : FnOk P w K mg base (L2.CX P w) 2 (He.ga K "is_step_number") fd_is_step_number ["thing"] (spD C 1 (sem_is_step_number cs))) :
  FnOk P w K mg base (L2.CX P w) 3 (He.ga K "is_plain_step") fd ["thing"] (spD C 1 (sem_is_plain_step cs)) := by
  refine fn_body (N := NE_is_plain_step) (rd := rd_is_plain_step cs) Fn sc_is_plain_step rfn_is_plain_step fun cdv A outer s H G E hr => ?_
  have nd := sc_is_plain_step.nd
  have hK : (cxOf (L2.CX P w) P w K mg base NE_is_plain_step "is_plain_step" (defScope s_is_plain_step) (He.ga K "is_plain_step") cdv A outer s H E).K = (fxOf C G H E).K := hCK
  have tk : Takes (cxOf (L2.CX P w) P w K mg base NE_is_plain_step "is_plain_step" (defScope s_is_plain_step) (He.ga K "is_plain_step") cdv A outer s H E) (fxOf C G H E).wish := takes_of rfl rfl rfl rfl
  exact (dss_cons (ds_if (PW.pt (dw_or (dt_not (dt_val (de_isi hK (T.kit_ty_tuple hCK hcad) (.ty _) (de_var 0 (pv 0)) (pe_bltn (by rfl) T.free_tuple (by decide +kernel) (v := .ty "tuple") rfl) rfl T.free_isinstance))) (dw_or (dt_cmp (op_neD hr.units) (od_ne hK) (de_callB call_len (cd_len hK) rfl T.free_len (by decide +kernel) (da_cons (de_var 0 (pv 0)) da_nil)) de_int (by rfl)) (dw_or1 (dt_not (dt_val (de_isi hK (T.kit_ty_str hCK hcad) (.ty _) (de_ix ix_seq (od_ix hK) (de_var 0 (pv 0)) de_int (fun _ _ => rfl)) (pe_bltn (by rfl) T.free_str (by decide +kernel) (v := .ty "str") rfl) rfl T.free_isinstance))))))) (dss_one (ds_ret de_bl)) dss_nil)
    (dss_cons (ds_if (dt_cmp op_in_seq (od_in false hK) (de_ix ix_seq (od_ix hK) (de_var 0 (pv 0)) de_int (fun _ _ => rfl)) (de_tup (da_cons (de_gstr rfl T.str_KEEP) (da_cons (de_gstr rfl T.str_STRIKE) da_nil))) (by rfl)) (dss_one (ds_ret (de_isi hK (T.kit_own_Rhythm hCK hcad) (.own _) (de_ix ix_seq (od_ix hK) (de_var 0 (pv 0)) de_int (fun _ _ => rfl)) (pe_glob rfl T.glo_Rhythm rfl) rfl T.free_isinstance))) dss_nil)
    (dss_one (ds_ret (de_and hK (de_cmp op_in_seq (od_in false hK) (de_ix ix_seq (od_ix hK) (de_var 0 (pv 0)) de_int (fun _ _ => rfl)) (de_tup (da_cons (de_gstr rfl T.str_SHIFT) (da_cons (de_gstr rfl T.str_FROM) (da_cons (de_gstr rfl T.str_UNTIL) da_nil)))) (by rfl)) (de_one (de_call G_is_step_number tk (hr.mono (by decide)) rfl T.glo_is_step_number F_is_step_number.kp B_is_step_number .nil DfR.nil (da_cons (de_ix ix_seq (od_ix hK) (de_var 0 (pv 0)) de_int (fun _ _ => rfl)) da_nil))))))))
theorem dd_is_add {P : Program} {w : World} {K : PySem.W.Frag} {mg : Str → Option Value} {base : Heap} {S : Type} {C : Cc S} (hCK : K = C.K) (hcad : C.cad = He.ga K) (T : Txt K mg) {fd : FuncData} (Fn : Fun K "is_add" "is_add" s_is_add (He.ga K "is_add") fd)
  {fd_is_step_number : FuncData} (F_is_step_number : Fun K "is_step_number" "is_step_number" s_is_step_number (He.ga K "is_step_number") fd_is_step_number) (B_is_step_number : Binds K fd_is_step_number ["thing"] [])
  (G_is_step_number : FnOk P w K mg base (L2.CX P w) 2 (He.ga K "is_step_number") fd_is_step_number ["thing"] (spD C 1 (sem_is_step_number cs))) :
  FnOk P w K mg base (L2.CX P w) 3 (He.ga K "is_add") fd ["thing"] (spD C 1 (sem_is_add cs)) := by
  refine fn_body (N := NE_is_add) (rd := rd_is_add cs) Fn sc_is_add rfn_is_add fun cdv A outer s H G E hr => ?_
  have nd := sc_is_add.nd
  have hK : (cxOf (L2.CX P w) P w K mg base NE_is_add "is_add" (defScope s_is_add) (He.ga K "is_add") cdv A outer s H E).K = (fxOf C G H E).K := hCK
  have tk : Takes (cxOf (L2.CX P w) P w K mg base NE_is_add "is_add" (defScope s_is_add) (He.ga K "is_add") cdv A outer s H E) (fxOf C G H E).wish := takes_of rfl rfl rfl rfl
  exact (dss_cons (ds_if (PW.pt (dw_or (dt_not (dt_val (de_isi hK (T.kit_ty_tuple hCK hcad) (.ty _) (de_var 0 (pv 0)) (pe_bltn (by rfl) T.free_tuple (by decide +kernel) (v := .ty "tuple") rfl) rfl T.free_isinstance))) (dw_or (dt_cmp (op_neD hr.units) (od_ne hK) (de_callB call_len (cd_len hK) rfl T.free_len (by decide +kernel) (da_cons (de_var 0 (pv 0)) da_nil)) de_int (by rfl)) (dw_or (dt_not (dt_val (de_isi hK (T.kit_ty_str hCK hcad) (.ty _) (de_ix ix_seq (od_ix hK) (de_var 0 (pv 0)) de_int (fun _ _ => rfl)) (pe_bltn (by rfl) T.free_str (by decide +kernel) (v := .ty "str") rfl) rfl T.free_isinstance))) (dw_or1 (dt_cmp (op_neD hr.units) (od_ne hK) (de_ix ix_seq (od_ix hK) (de_var 0 (pv 0)) de_int (fun _ _ => rfl)) (de_gstr rfl T.str_ADD) (by rfl))))))) (dss_one (ds_ret de_bl)) dss_nil)
    (dss_one (ds_ret (de_and hK (de_isi hK (T.kit_own_Rhythm hCK hcad) (.own _) (de_ix ix_seq (od_ix hK) (de_var 0 (pv 0)) de_int (fun _ _ => rfl)) (pe_glob rfl T.glo_Rhythm rfl) rfl T.free_isinstance) (de_and hK (de_call G_is_step_number tk (hr.mono (by decide)) rfl T.glo_is_step_number F_is_step_number.kp B_is_step_number .nil DfR.nil (da_cons (de_ix ix_seq (od_ix hK) (de_var 0 (pv 0)) de_int (fun _ _ => rfl)) da_nil)) (de_one (de_or hK (de_cmp op_isN od_isN (de_ix ix_seq (od_ix hK) (de_var 0 (pv 0)) de_int (fun _ _ => rfl)) de_non (by rfl)) (de_one (de_call G_is_step_number tk (hr.mono (by decide)) rfl T.glo_is_step_number F_is_step_number.kp B_is_step_number .nil DfR.nil (da_cons (de_ix ix_seq (od_ix hK) (de_var 0 (pv 0)) de_int (fun _ _ => rfl)) da_nil))))))))))
theorem dd_is_since {P : Program} {w : World} {K : PySem.W.Frag} {mg : Str → Option Value} {base : Heap} {S : Type} {C : Cc S} (hCK : K = C.K) (hcad : C.cad = He.ga K) (T : Txt K mg) {fd : FuncData} (Fn : Fun K "is_since" "is_since" s_is_since (He.ga K "is_since") fd)
  {fd_is_step_number : FuncData} (F_is_step_number : Fun K "is_step_number" "is_step_number" s_is_step_number (He.ga K "is_step_number") fd_is_step_number) (B_is_step_number : Binds K fd_is_step_number ["thing"] [])
  (G_is_step_number : FnOk P w K mg base (L2.CX P w) 2 (He.ga K "is_step_number") fd_is_step_number ["thing"] (spD C 1 (sem_is_step_number cs)))
  {fd_is_plain_step : FuncData} (F_is_plain_step : Fun K "is_plain_step" "is_plain_step" s_is_plain_step (He.ga K "is_plain_step") fd_is_plain_step) (B_is_plain_step : Binds K fd_is_plain_step ["thing"] [])
  (G_is_plain_step : FnOk P w K mg base (L2.CX P w) 3 (He.ga K "is_plain_step") fd_is_plain_step ["thing"] (spD C 1 (sem_is_plain_step cs))) :
  FnOk P w K mg base (L2.CX P w) 4 (He.ga K "is_since") fd ["thing"] (spD C 1 (sem_is_since cs)) := by
  refine fn_body (N := NE_is_since) (rd := rd_is_since cs) Fn sc_is_since rfn_is_since fun cdv A outer s H G E hr => ?_
  have nd := sc_is_since.nd
  have hK : (cxOf (L2.CX P w) P w K mg base NE_is_since "is_since" (defScope s_is_since) (He.ga K "is_since") cdv A outer s H E).K = (fxOf C G H E).K := hCK
  have tk : Takes (cxOf (L2.CX P w) P w K mg base NE_is_since "is_since" (defScope s_is_since) (He.ga K "is_since") cdv A outer s H E) (fxOf C G H E).wish := takes_of rfl rfl rfl rfl
  exact (dss_cons (ds_if (PW.pt (dw_or (dt_not (dt_val (de_isi hK (T.kit_ty_tuple hCK hcad) (.ty _) (de_var 0 (pv 0)) (pe_bltn (by rfl) T.free_tuple (by decide +kernel) (v := .ty "tuple") rfl) rfl T.free_isinstance))) (dw_or (dt_cmp (op_neD hr.units) (od_ne hK) (de_callB call_len (cd_len hK) rfl T.free_len (by decide +kernel) (da_cons (de_var 0 (pv 0)) da_nil)) de_int (by rfl)) (dw_or (dt_not (dt_val (de_isi hK (T.kit_ty_str hCK hcad) (.ty _) (de_ix ix_seq (od_ix hK) (de_var 0 (pv 0)) de_int (fun _ _ => rfl)) (pe_bltn (by rfl) T.free_str (by decide +kernel) (v := .ty "str") rfl) rfl T.free_isinstance))) (dw_or1 (dt_cmp (op_neD hr.units) (od_ne hK) (de_ix ix_seq (od_ix hK) (de_var 0 (pv 0)) de_int (fun _ _ => rfl)) (de_gstr rfl T.str_SINCE) (by rfl))))))) (dss_one (ds_ret de_bl)) dss_nil)
    (dss_cons (ds_if (PW.pt (dw_or (dt_not (dt_val (de_call G_is_step_number tk (hr.mono (by decide)) rfl T.glo_is_step_number F_is_step_number.kp B_is_step_number .nil DfR.nil (da_cons (de_ix ix_seq (od_ix hK) (de_var 0 (pv 0)) de_int (fun _ _ => rfl)) da_nil)))) (dw_or (dt_not (dt_val (de_isi hK (T.kit_ty_tuple hCK hcad) (.ty _) (de_ix ix_seq (od_ix hK) (de_var 0 (pv 0)) de_int (fun _ _ => rfl)) (pe_bltn (by rfl) T.free_tuple (by decide +kernel) (v := .ty "tuple") rfl) rfl T.free_isinstance))) (dw_or1 (dt_cmp (op_eqD hr.units) (od_eq hK) (de_callB call_len (cd_len hK) rfl T.free_len (by decide +kernel) (da_cons (de_ix ix_seq (od_ix hK) (de_var 0 (pv 0)) de_int (fun _ _ => rfl)) da_nil)) de_int (by rfl)))))) (dss_one (ds_ret de_bl)) dss_nil)
    (dss_one (ds_ret (de_callB (cr_all rfl) (cd_all hK) rfl T.free_all (by decide +kernel) (da_cons (de_lc (own := [("step", 1)]) (g := gName 1) rfl nd (di_seq hK (de_ix ix_seq (od_ix hK) (de_var 0 (pv 0)) de_int (fun _ _ => rfl))) (blkOk_by (N := NE_is_since) (sc := defScope s_is_since) (by decide +kernel)) (gw_name (by decide)) (fun _ _ _ _ _ => pg_name (i := 1) nd rfl (Or.inl rfl)) (fun _ _ _ _ _ => dts_nil) (fun _ _ _ _ _ => (de_call G_is_plain_step takes0 (hr.mono (by decide)) rfl T.glo_is_plain_step F_is_plain_step.kp B_is_plain_step .nil DfR.nil (da_cons (de_var 1 (pv 1)) da_nil)))) da_nil))))))
theorem dd_is_step {P : Program} {w : World} {K : PySem.W.Frag} {mg : Str → Option Value} {base : Heap} {S : Type} {C : Cc S} (hCK : K = C.K) (hcad : C.cad = He.ga K) (T : Txt K mg) {fd : FuncData} (Fn : Fun K "is_step" "is_step" s_is_step (He.ga K "is_step") fd)
  {fd_is_plain_step : FuncData} (F_is_plain_step : Fun K "is_plain_step" "is_plain_step" s_is_plain_step (He.ga K "is_plain_step") fd_is_plain_step) (B_is_plain_step : Binds K fd_is_plain_step ["thing"] [])
  (G_is_plain_step : FnOk P w K mg base (L2.CX P w) 3 (He.ga K "is_plain_step") fd_is_plain_step ["thing"] (spD C 1 (sem_is_plain_step cs)))
  {fd_is_add : FuncData} (F_is_add : Fun K "is_add" "is_add" s_is_add (He.ga K "is_add") fd_is_add) (B_is_add : Binds K fd_is_add ["thing"] [])
  (G_is_add : FnOk P w K mg base (L2.CX P w) 3 (He.ga K "is_add") fd_is_add ["thing"] (spD C 1 (sem_is_add cs)))
  {fd_is_since : FuncData} (F_is_since : Fun K "is_since" "is_since" s_is_since (He.ga K "is_since") fd_is_since) (B_is_since : Binds K fd_is_since ["thing"] [])
  (G_is_since : FnOk P w K mg base (L2.CX P w) 4 (He.ga K "is_since") fd_is_since ["thing"] (spD C 1 (sem_is_since cs))) :
  FnOk P w K mg base (L2.CX P w) 5 (He.ga K "is_step") fd ["thing"] (spD C 1 (sem_is_step cs)) := by
  refine fn_body (N := NE_is_step) (rd := rd_is_step cs) Fn sc_is_step rfn_is_step fun cdv A outer s H G E hr => ?_
  have nd := sc_is_step.nd
  have hK : (cxOf (L2.CX P w) P w K mg base NE_is_step "is_step" (defScope s_is_step) (He.ga K "is_step") cdv A outer s H E).K = (fxOf C G H E).K := hCK
  have tk : Takes (cxOf (L2.CX P w) P w K mg base NE_is_step "is_step" (defScope s_is_step) (He.ga K "is_step") cdv A outer s H E) (fxOf C G H E).wish := takes_of rfl rfl rfl rfl
  exact (dss_one (ds_ret (de_or hK (de_call G_is_plain_step tk (hr.mono (by decide)) rfl T.glo_is_plain_step F_is_plain_step.kp B_is_plain_step .nil DfR.nil (da_cons (de_var 0 (pv 0)) da_nil)) (de_or hK (de_call G_is_add tk (hr.mono (by decide)) rfl T.glo_is_add F_is_add.kp B_is_add .nil DfR.nil (da_cons (de_var 0 (pv 0)) da_nil)) (de_one (de_call G_is_since tk (hr.mono (by decide)) rfl T.glo_is_since F_is_since.kp B_is_since .nil DfR.nil (da_cons (de_var 0 (pv 0)) da_nil)))))))
theorem dd_flat {P : Program} {w : World} {K : PySem.W.Frag} {mg : Str → Option Value} {base : Heap} {S : Type} {C : Cc S} (hCK : K = C.K) (hcad : C.cad = He.ga K) (T : Txt K mg) {fd : FuncData} (Fn : Fun K "flat" "flat" s_flat (He.ga K "flat") fd)
   :
  FnOk P w K mg base (L2.CX P w) 1 (He.ga K "flat") fd ["steps"] (spD C 1 sem_flat) := by
  refine fn_body (N := NE_flat) (rd := rd_flat) Fn sc_flat rfn_flat fun cdv A outer s H G E hr => ?_
  have nd := sc_flat.nd
  have hK : (cxOf (L2.CX P w) P w K mg base NE_flat "flat" (defScope s_flat) (He.ga K "flat") cdv A outer s H E).K = (fxOf C G H E).K := hCK
  have tk : Takes (cxOf (L2.CX P w) P w K mg base NE_flat "flat" (defScope s_flat) (He.ga K "flat") cdv A outer s H E) (fxOf C G H E).wish := takes_of rfl rfl rfl rfl
  exact (dss_cons (ds_own da_nil (pg_name (i := 1) nd rfl (.inl rfl)))
    (dss_cons (ds_for (passes_of rfl) rfl (di_seq hK (de_var 0 (pv 0))) (dg_name 2 (pg_name (i := 2) nd rfl (.inl rfl))) (dss_cons (ds_app (pv 1) (de_var 2 (pv 2)))
    (dss_one (ds_if (dt_cmp (op_eqD hr.units) (od_eq hK) (de_ix ix_seq (od_ix hK) (de_var 2 (pv 2)) de_int (fun _ _ => rfl)) (de_gstr rfl T.str_SINCE) (by rfl)) (dss_one (ds_ext (pv 1) (de_callTy call_list_of (cd_list hK) rfl T.free_list (by decide +kernel) (da_cons (de_ix ix_seq (od_ix hK) (de_var 2 (pv 2)) de_int (fun _ _ => rfl)) da_nil)))) dss_nil))))
    (dss_one (ds_retO (pv 1)))))
theorem dd_common {P : Program} {w : World} {K : PySem.W.Frag} {mg : Str → Option Value} {base : Heap} {S : Type} {C : Cc S} (hCK : K = C.K) (hcad : C.cad = He.ga K) (T : Txt K mg) {fd : FuncData} (Fn : Fun K "common" "common" s_common (He.ga K "common") fd)
   :
  FnOk P w K mg base (L2.CX P w) 1 (He.ga K "common") fd ["one", "other"] (spD C 2 sem_common) := by
  refine fn_body (N := NE_common) (rd := rd_common) Fn sc_common rfn_common fun cdv A outer s H G E hr => ?_
  have nd := sc_common.nd
  have hK : (cxOf (L2.CX P w) P w K mg base NE_common "common" (defScope s_common) (He.ga K "common") cdv A outer s H E).K = (fxOf C G H E).K := hCK
  have tk : Takes (cxOf (L2.CX P w) P w K mg base NE_common "common" (defScope s_common) (He.ga K "common") cdv A outer s H E) (fxOf C G H E).wish := takes_of rfl rfl rfl rfl
  exact (dss_cons (ds_par rfl nd rfl rfl (by decide) rfl rfl (da_cons (de_var 0 (pv 0)) (da_cons (de_var 1 (pv 1)) da_nil)) (by rfl))
    (dss_cons (ds_while (passes_of rfl) (dt_cmp op_gt od_gt (de_var 3 (pv 3)) de_int (by rfl)) (dss_one (ds_par rfl nd rfl rfl (by decide) rfl rfl (da_cons (de_var 3 (pv 3)) (da_cons (de_op op_mod od_mod (de_var 2 (pv 2)) (de_var 3 (pv 3))) da_nil)) (by rfl))))
    (dss_one (ds_ret (de_op op_mul od_mul (de_op op_fdiv od_div (de_var 0 (pv 0)) (de_var 2 (pv 2))) (de_var 1 (pv 1)))))))
theorem dd_Rhythm_size {P : Program} {w : World} {K : PySem.W.Frag} {mg : Str → Option Value} {base : Heap} {S : Type} {C : Cc S} (hCK : K = C.K) (hcad : C.cad = He.ga K) (T : Txt K mg) {fd : FuncData} (Fn : Fun K "size" "Rhythm.size" s_Rhythm_size (He5.wf K (He.ga K "Rhythm") "property" "size") fd)
   :
  FnOk P w K mg base (L2.CX P w) 1 (He5.wf K (He.ga K "Rhythm") "property" "size") fd ["self"] (spD C 1 sem_Rhythm_size) := by
  refine fn_body (N := NE_Rhythm_size) (rd := rd_Rhythm_size) Fn sc_Rhythm_size rfn_Rhythm_size fun cdv A outer s H G E hr => ?_
  have nd := sc_Rhythm_size.nd
  have hK : (cxOf (L2.CX P w) P w K mg base NE_Rhythm_size "Rhythm.size" (defScope s_Rhythm_size) (He5.wf K (He.ga K "Rhythm") "property" "size") cdv A outer s H E).K = (fxOf C G H E).K := hCK
  have tk : Takes (cxOf (L2.CX P w) P w K mg base NE_Rhythm_size "Rhythm.size" (defScope s_Rhythm_size) (He5.wf K (He.ga K "Rhythm") "property" "size") cdv A outer s H E) (fxOf C G H E).wish := takes_of rfl rfl rfl rfl
  exact (dss_one (ds_ret (de_ix ix_seq (od_ix hK) (de_fldC hK (congrFun hcad "Rhythm") T.cls_Rhythm T.noat_Rhythm_own_form (de_var 0 (pv 0))) de_int (fun _ _ => rfl))))
theorem dd_common_round {P : Program} {w : World} {K : PySem.W.Frag} {mg : Str → Option Value} {base : Heap} {S : Type} {C : Cc S} (hCK : K = C.K) (hcad : C.cad = He.ga K) (T : Txt K mg) {fd : FuncData} (Fn : Fun K "common_round" "common_round" s_common_round (He.ga K "common_round") fd)
  {fd_common : FuncData} (F_common : Fun K "common" "common" s_common (He.ga K "common") fd_common) (B_common : Binds K fd_common ["one", "other"] [])
  (G_common : FnOk P w K mg base (L2.CX P w) 1 (He.ga K "common") fd_common ["one", "other"] (spD C 2 sem_common))
  {fd_Rhythm_size : FuncData} (F_Rhythm_size : Fun K "size" "Rhythm.size" s_Rhythm_size (He5.wf K (He.ga K "Rhythm") "property" "size") fd_Rhythm_size) (B_Rhythm_size : Binds K fd_Rhythm_size ["self"] [])
  (G_Rhythm_size : FnOk P w K mg base (L2.CX P w) 1 (He5.wf K (He.ga K "Rhythm") "property" "size") fd_Rhythm_size ["self"] (spD C 1 sem_Rhythm_size)) :
  FnOk P w K mg base (L2.CX P w) 3 (He.ga K "common_round") fd ["rhythms"] (spD C 1 sem_common_round) := by
  refine fn_body (N := NE_common_round) (rd := rd_common_round) Fn sc_common_round rfn_common_round fun cdv A outer s H G E hr => ?_
  have nd := sc_common_round.nd
  have hK : (cxOf (L2.CX P w) P w K mg base NE_common_round "common_round" (defScope s_common_round) (He.ga K "common_round") cdv A outer s H E).K = (fxOf C G H E).K := hCK
  have tk : Takes (cxOf (L2.CX P w) P w K mg base NE_common_round "common_round" (defScope s_common_round) (He.ga K "common_round") cdv A outer s H E) (fxOf C G H E).wish := takes_of rfl rfl rfl rfl
  exact (dss_cons (ds_asg de_int (dg_name 1 (pg_name (i := 1) nd rfl (.inl rfl))))
    (dss_cons (ds_for (passes_of rfl) rfl (di_seq hK (de_var 0 (pv 0))) (dg_name 2 (pg_name (i := 2) nd rfl (.inl rfl))) (dss_one (ds_asg (de_call G_common tk (hr.mono (by decide)) rfl T.glo_common F_common.kp B_common .nil DfR.nil (da_cons (de_var 1 (pv 1)) (da_cons (de_prop (congrFun hcad "Rhythm") (de_var 2 (pv 2)) T.cls_Rhythm T.prop_Rhythm_size G_Rhythm_size (hr.mono (by decide)) B_Rhythm_size) da_nil))) (dg_name 1 (pg_name (i := 1) nd rfl (.inl rfl))))))
    (dss_one (ds_ret (de_var 1 (pv 1))))))
theorem dd_round_of {P : Program} {w : World} {K : PySem.W.Frag} {mg : Str → Option Value} {base : Heap} {S : Type} {C : Cc S} (hCK : K = C.K) (hcad : C.cad = He.ga K) (T : Txt K mg) {fd : FuncData} (Fn : Fun K "round_of" "round_of" s_round_of (He.ga K "round_of") fd)
  {fd_common_round : FuncData} (F_common_round : Fun K "common_round" "common_round" s_common_round (He.ga K "common_round") fd_common_round) (B_common_round : Binds K fd_common_round ["rhythms"] [])
  (G_common_round : FnOk P w K mg base (L2.CX P w) 3 (He.ga K "common_round") fd_common_round ["rhythms"] (spD C 1 sem_common_round))
  {fd_flat : FuncData} (F_flat : Fun K "flat" "flat" s_flat (He.ga K "flat") fd_flat) (B_flat : Binds K fd_flat ["steps"] [])
  (G_flat : FnOk P w K mg base (L2.CX P w) 1 (He.ga K "flat") fd_flat ["steps"] (spD C 1 sem_flat)) :
  FnOk P w K mg base (L2.CX P w) 4 (He.ga K "round_of") fd ["steps"] (spD C 1 sem_round_of) := by
  refine fn_body (N := NE_round_of) (rd := rd_round_of) Fn sc_round_of rfn_round_of fun cdv A outer s H G E hr => ?_
  have nd := sc_round_of.nd
  have hK : (cxOf (L2.CX P w) P w K mg base NE_round_of "round_of" (defScope s_round_of) (He.ga K "round_of") cdv A outer s H E).K = (fxOf C G H E).K := hCK
  have tk : Takes (cxOf (L2.CX P w) P w K mg base NE_round_of "round_of" (defScope s_round_of) (He.ga K "round_of") cdv A outer s H E) (fxOf C G H E).wish := takes_of rfl rfl rfl rfl
  exact (dss_one (ds_ret (de_call G_common_round tk (hr.mono (by decide)) rfl T.glo_common_round F_common_round.kp B_common_round .nil DfR.nil (da_cons (de_lc (own := [("step", 1)]) (g := gName 1) rfl nd (di_seq hK (de_call G_flat tk (hr.mono (by decide)) rfl T.glo_flat F_flat.kp B_flat .nil DfR.nil (da_cons (de_var 0 (pv 0)) da_nil))) (blkOk_by (N := NE_round_of) (sc := defScope s_round_of) (by decide +kernel)) (gw_name (by decide)) (fun _ _ _ _ _ => pg_name (i := 1) nd rfl (Or.inl rfl)) (fun _ _ _ _ _ => (dts_one (dt_cmp op_in_seq (od_in false hK) (de_ix ix_seq (od_ix hK) (de_var 1 (pv 1)) de_int (fun _ _ => rfl)) (de_tup (da_cons (de_gstr rfl T.str_KEEP) (da_cons (de_gstr rfl T.str_STRIKE) (da_cons (de_gstr rfl T.str_ADD) da_nil)))) (by rfl)))) (fun _ _ _ _ _ => (de_ix ix_seq (od_ix hK) (de_var 1 (pv 1)) de_int (fun _ _ => rfl)))) da_nil))))
theorem dd_need_few {P : Program} {w : World} {K : PySem.W.Frag} {mg : Str → Option Value} {base : Heap} {S : Type} {C : Cc S} (hCK : K = C.K) (hcad : C.cad = He.ga K) (T : Txt K mg) {fd : FuncData} (Fn : Fun K "need_few" "need_few" s_need_few (He.ga K "need_few") fd)
  {fd_flat : FuncData} (F_flat : Fun K "flat" "flat" s_flat (He.ga K "flat") fd_flat) (B_flat : Binds K fd_flat ["steps"] [])
  (G_flat : FnOk P w K mg base (L2.CX P w) 1 (He.ga K "flat") fd_flat ["steps"] (spD C 1 sem_flat))
  {fd_round_of : FuncData} (F_round_of : Fun K "round_of" "round_of" s_round_of (He.ga K "round_of") fd_round_of) (B_round_of : Binds K fd_round_of ["steps"] [])
  (G_round_of : FnOk P w K mg base (L2.CX P w) 4 (He.ga K "round_of") fd_round_of ["steps"] (spD C 1 sem_round_of)) :
  FnOk P w K mg base (L2.CX P w) 5 (He.ga K "need_few") fd ["steps"] (spD C 1 sem_need_few) := by
  refine fn_body (N := NE_need_few) (rd := rd_need_few) Fn sc_need_few rfn_need_few fun cdv A outer s H G E hr => ?_
  have nd := sc_need_few.nd
  have hK : (cxOf (L2.CX P w) P w K mg base NE_need_few "need_few" (defScope s_need_few) (He.ga K "need_few") cdv A outer s H E).K = (fxOf C G H E).K := hCK
  have tk : Takes (cxOf (L2.CX P w) P w K mg base NE_need_few "need_few" (defScope s_need_few) (He.ga K "need_few") cdv A outer s H E) (fxOf C G H E).wish := takes_of rfl rfl rfl rfl
  exact (dss_cons (ds_if (dt_cmp op_gt od_gt (de_callB call_len (cd_len hK) rfl T.free_len (by decide +kernel) (da_cons (de_call G_flat tk (hr.mono (by decide)) rfl T.glo_flat F_flat.kp B_flat .nil DfR.nil (da_cons (de_var 0 (pv 0)) da_nil)) da_nil)) (de_gint rfl T.int_MOST_STEPS) (by rfl)) (dss_one ds_no) dss_nil)
    (dss_one (ds_if (dt_cmp op_gt od_gt (de_call G_round_of tk (hr.mono (by decide)) rfl T.glo_round_of F_round_of.kp B_round_of .nil DfR.nil (da_cons (de_var 0 (pv 0)) da_nil)) (de_gint rfl T.int_MOST_ROUND) (by rfl)) (dss_one ds_no) dss_nil)))
theorem dd_Script___init__ {P : Program} {w : World} {K : PySem.W.Frag} {mg : Str → Option Value} {base : Heap} {S : Type} {C : Cc S} (hCK : K = C.K) (hcad : C.cad = He.ga K) (T : Txt K mg) {fd : FuncData} (Fn : FunD K "__init__" "Script.__init__" (defArgs s_Script___init__) (defBody s_Script___init__) (defScope s_Script___init__) [.ref (dflA (fun K => (He.ma K (He.ga K "Script") "__init__")) 0 K)] [] (He.ma K (He.ga K "Script") "__init__") fd)
  {fd_is_list : FuncData} (F_is_list : Fun K "is_list" "is_list" s_is_list (He.ga K "is_list") fd_is_list) (B_is_list : Binds K fd_is_list ["thing"] [])
  (G_is_list : FnOk P w K mg base (L2.CX P w) 1 (He.ga K "is_list") fd_is_list ["thing"] (spD C 1 (sem_is_list cs)))
  {fd_is_step : FuncData} (F_is_step : Fun K "is_step" "is_step" s_is_step (He.ga K "is_step") fd_is_step) (B_is_step : Binds K fd_is_step ["thing"] [])
  (G_is_step : FnOk P w K mg base (L2.CX P w) 5 (He.ga K "is_step") fd_is_step ["thing"] (spD C 1 (sem_is_step cs)))
  {fd_need_few : FuncData} (F_need_few : Fun K "need_few" "need_few" s_need_few (He.ga K "need_few") fd_need_few) (B_need_few : Binds K fd_need_few ["steps"] [])
  (G_need_few : FnOk P w K mg base (L2.CX P w) 5 (He.ga K "need_few") fd_need_few ["steps"] (spD C 1 sem_need_few)) :
  FnOk P w K mg base (L2.CX P w) 6 (He.ma K (He.ga K "Script") "__init__") fd ["self", "steps"] (spI C "Script" 1 (sem_Script___init__ cs)) := by
  refine fn_initD (N := NE_Script___init__) (rd := rd_Script___init__ cs) (n := 1) Fn sc_Script___init__ rfl rfn_Script___init__ fun cdv A outer s H G xx E hr => ?_
  have nd := sc_Script___init__.nd
  have hK : (cxOf (L2.CX P w) P w K mg base NE_Script___init__ "Script.__init__" (defScope s_Script___init__) (He.ma K (He.ga K "Script") "__init__") cdv A outer s H E).K = (fxI C G H xx E).K := hCK
  have tk : Takes (cxOf (L2.CX P w) P w K mg base NE_Script___init__ "Script.__init__" (defScope s_Script___init__) (He.ma K (He.ga K "Script") "__init__") cdv A outer s H E) (fxI C G H xx E).wish := takes_of rfl rfl rfl rfl
  exact (dss_cons (ds_if (dt_not (dt_val (de_call G_is_list tk (hr.mono (by decide)) rfl T.glo_is_list F_is_list.kp B_is_list .nil DfR.nil (da_cons (de_var 1 (pv 1)) da_nil)))) (dss_one ds_no) dss_nil)
    (dss_cons (ds_for (passes_of rfl) rfl (di_enum hK rfl T.free_enumerate (da_cons (de_var 1 (pv 1)) da_nil)) (dg_tup hK rfl (dgs_cons (dg_name 2 (pg_name (i := 2) nd rfl (.inl rfl))) (dgs_cons (dg_name 3 (pg_name (i := 3) nd rfl (.inl rfl))) dgs_nil))) (dss_one (ds_if (dt_not (dt_val (de_call G_is_step tk (hr.mono (by decide)) rfl T.glo_is_step F_is_step.kp B_is_step .nil DfR.nil (da_cons (de_var 3 (pv 3)) da_nil)))) (dss_one ds_no) dss_nil)))
    (dss_cons (ds_expr (de_call G_need_few tk (hr.mono (by decide)) rfl T.glo_need_few F_need_few.kp B_need_few .nil DfR.nil (da_cons (de_var 1 (pv 1)) da_nil)))
    (dss_one (ds_fld hK (by rw [show (fxI C G H xx E).cad = He.ga K from hcad]; exact T.cls_Script) (by rw [show (fxI C G H xx E).cad = He.ga K from hcad]; exact T.noat_Script_own_steps) (pv 0) (de_callTy call_tuple_of (cd_tuple hK) rfl T.free_tuple (by decide +kernel) (da_cons (de_var 1 (pv 1)) da_nil)))))))
theorem dd_are_different {P : Program} {w : World} {K : PySem.W.Frag} {mg : Str → Option Value} {base : Heap} {S : Type} {C : Cc S} (hCK : K = C.K) (hcad : C.cad = He.ga K) (T : Txt K mg) {fd : FuncData} (Fn : Fun K "are_different" "are_different" s_are_different (He.ga K "are_different") fd)
  {fd_is_list : FuncData} (F_is_list : Fun K "is_list" "is_list" s_is_list (He.ga K "is_list") fd_is_list) (B_is_list : Binds K fd_is_list ["thing"] [])
  (G_is_list : FnOk P w K mg base (L2.CX P w) 1 (He.ga K "is_list") fd_is_list ["thing"] (spD C 1 (sem_is_list cs)))
  {fd_is_number : FuncData} (F_is_number : Fun K "is_number" "is_number" s_is_number (He.ga K "is_number") fd_is_number) (B_is_number : Binds K fd_is_number ["thing"] [])
  (G_is_number : FnOk P w K mg base (L2.CX P w) 1 (He.ga K "is_number") fd_is_number ["thing"] (spD C 1 (sem_is_number cs))) :
  FnOk P w K mg base (L2.CX P w) 2 (He.ga K "are_different") fd ["thing", "least", "most"] (spD C 3 (sem_are_different cs)) := by
  refine fn_body (N := NE_are_different) (rd := rd_are_different cs) Fn sc_are_different rfn_are_different fun cdv A outer s H G E hr => ?_
  have nd := sc_are_different.nd
  have hK : (cxOf (L2.CX P w) P w K mg base NE_are_different "are_different" (defScope s_are_different) (He.ga K "are_different") cdv A outer s H E).K = (fxOf C G H E).K := hCK
  have tk : Takes (cxOf (L2.CX P w) P w K mg base NE_are_different "are_different" (defScope s_are_different) (He.ga K "are_different") cdv A outer s H E) (fxOf C G H E).wish := takes_of rfl rfl rfl rfl
  exact (dss_cons (ds_if (PW.pt (dw_or (dt_not (dt_val (de_call G_is_list tk (hr.mono (by decide)) rfl T.glo_is_list F_is_list.kp B_is_list .nil DfR.nil (da_cons (de_var 0 (pv 0)) da_nil)))) (dw_or1 (dt_not (dt_val (de_callB (cr_all rfl) (cd_all hK) rfl T.free_all (by decide +kernel) (da_cons (de_lc (own := [("item", 3)]) (g := gName 3) rfl nd (di_seq hK (de_var 0 (pv 0))) (blkOk_by (N := NE_are_different) (sc := defScope s_are_different) (by decide +kernel)) (gw_name (by decide)) (fun _ _ _ _ _ => pg_name (i := 3) nd rfl (Or.inl rfl)) (fun _ _ _ _ _ => dts_nil) (fun _ _ _ _ _ => (de_and hK (de_call G_is_number takes0 (hr.mono (by decide)) rfl T.glo_is_number F_is_number.kp B_is_number .nil DfR.nil (da_cons (de_var 3 (pv 3)) da_nil)) (de_one (de_chain op_le od_le op_le od_le (de_var 1 (pv 1)) (de_var 3 (pv 3)) (de_var 2 (pv 2))))))) da_nil))))))) (dss_one (ds_ret de_bl)) dss_nil)
    (dss_one (ds_ret (de_cmp (op_eqD hr.units) (od_eq hK) (de_lenSet hK rfl T.free_len rfl T.free_set (de_callTy call_list_of (cd_list hK) rfl T.free_list (by decide +kernel) (da_cons (de_var 0 (pv 0)) da_nil))) (de_callB call_len (cd_len hK) rfl T.free_len (by decide +kernel) (da_cons (de_var 0 (pv 0)) da_nil)) (by rfl)))))
theorem dd_repeats {P : Program} {w : World} {K : PySem.W.Frag} {mg : Str → Option Value} {base : Heap} {S : Type} {C : Cc S} (hCK : K = C.K) (hcad : C.cad = He.ga K) (T : Txt K mg) {fd : FuncData} (Fn : Fun K "repeats" "repeats" s_repeats (He.ga K "repeats") fd)
   :
  FnOk P w K mg base (L2.CX P w) 1 (He.ga K "repeats") fd ["size", "rests", "part"] (spD C 3 sem_repeats) := by
  refine fn_body (N := NE_repeats) (rd := rd_repeats) Fn sc_repeats rfn_repeats fun cdv A outer s H G E hr => ?_
  have nd := sc_repeats.nd
  have hK : (cxOf (L2.CX P w) P w K mg base NE_repeats "repeats" (defScope s_repeats) (He.ga K "repeats") cdv A outer s H E).K = (fxOf C G H E).K := hCK
  have tk : Takes (cxOf (L2.CX P w) P w K mg base NE_repeats "repeats" (defScope s_repeats) (He.ga K "repeats") cdv A outer s H E) (fxOf C G H E).wish := takes_of rfl rfl rfl rfl
  exact (dss_one (ds_ret (de_callB (cr_all rfl) (cd_all hK) rfl T.free_all (by decide +kernel) (da_cons (de_lc (own := [("rest", 3)]) (g := gName 3) rfl nd (di_seq hK (de_var 1 (pv 1))) (blkOk_by (N := NE_repeats) (sc := defScope s_repeats) (by decide +kernel)) (gw_name (by decide)) (fun _ _ _ _ _ => pg_name (i := 3) nd rfl (Or.inl rfl)) (fun _ _ _ _ _ => dts_nil) (fun _ _ _ _ _ => (de_cmp op_in_seq (od_in false hK) (de_op op_mod od_mod (de_op or_add (od_add hK) (de_var 3 (pv 3)) (de_var 2 (pv 2))) (de_var 0 (pv 0))) (de_var 1 (pv 1)) (by rfl)))) da_nil))))
theorem dd_least_form {P : Program} {w : World} {K : PySem.W.Frag} {mg : Str → Option Value} {base : Heap} {S : Type} {C : Cc S} (hCK : K = C.K) (hcad : C.cad = He.ga K) (T : Txt K mg) {fd : FuncData} (Fn : Fun K "least_form" "least_form" s_least_form (He.ga K "least_form") fd)
  {fd_repeats : FuncData} (F_repeats : Fun K "repeats" "repeats" s_repeats (He.ga K "repeats") fd_repeats) (B_repeats : Binds K fd_repeats ["size", "rests", "part"] [])
  (G_repeats : FnOk P w K mg base (L2.CX P w) 1 (He.ga K "repeats") fd_repeats ["size", "rests", "part"] (spD C 3 sem_repeats)) :
  FnOk P w K mg base (L2.CX P w) 2 (He.ga K "least_form") fd ["size", "rests"] (spD C 2 sem_least_form) := by
  refine fn_body (N := NE_least_form) (rd := rd_least_form) Fn sc_least_form rfn_least_form fun cdv A outer s H G E hr => ?_
  have nd := sc_least_form.nd
  have hK : (cxOf (L2.CX P w) P w K mg base NE_least_form "least_form" (defScope s_least_form) (He.ga K "least_form") cdv A outer s H E).K = (fxOf C G H E).K := hCK
  have tk : Takes (cxOf (L2.CX P w) P w K mg base NE_least_form "least_form" (defScope s_least_form) (He.ga K "least_form") cdv A outer s H E) (fxOf C G H E).wish := takes_of rfl rfl rfl rfl
  exact (dss_cons (ds_asg (de_lc (own := [("part", 3)]) (g := gName 3) rfl nd (di_range2 rfl T.free_range (da_cons de_int (da_cons (de_op or_add (od_add hK) (de_var 0 (pv 0)) de_int) da_nil))) (blkOk_by (N := NE_least_form) (sc := defScope s_least_form) (by decide +kernel)) (gw_name (by decide)) (fun _ _ _ _ _ => pg_name (i := 3) nd rfl (Or.inl rfl)) (fun _ _ _ _ _ => (dts_one (PW.pt (dw_and (dt_cmp (op_eqD hr.units) (od_eq hK) (de_op op_mod od_mod (de_var 0 (pv 0)) (de_var 3 (pv 3))) de_int (by rfl)) (dw_and1 (dt_val (de_call G_repeats takes0 (hr.mono (by decide)) rfl T.glo_repeats F_repeats.kp B_repeats .nil DfR.nil (da_cons (de_var 0 (pv 0)) (da_cons (de_var 1 (pv 1)) (da_cons (de_var 3 (pv 3)) da_nil)))))))))) (fun _ _ _ _ _ => (de_var 3 (pv 3)))) (dg_name 2 (pg_name (i := 2) nd rfl (.inr rfl))))
    (dss_one (ds_ret (de_tup (da_cons (de_ix ix_seq (od_ix hK) (de_var 2 (pv 2)) de_int (fun _ _ => rfl)) (da_cons (de_callTy call_tuple_of (cd_tuple hK) rfl T.free_tuple (by decide +kernel) (da_cons (de_lc (own := [("rest", 4)]) (g := gName 4) rfl nd (di_seq hK (de_callB cr_sortedI (cd_sort hK) rfl T.free_sorted (by decide +kernel) (da_cons (de_var 1 (pv 1)) da_nil))) (blkOk_by (N := NE_least_form) (sc := defScope s_least_form) (by decide +kernel)) (gw_name (by decide)) (fun _ _ _ _ _ => pg_name (i := 4) nd rfl (Or.inl rfl)) (fun _ _ _ _ _ => (dts_one (dt_cmp op_lt od_lt (de_var 4 (pv 4)) (de_ix ix_seq (od_ix hK) (de_var 2 (pv 2)) de_int (fun _ _ => rfl)) (by rfl)))) (fun _ _ _ _ _ => (de_var 4 (pv 4)))) da_nil)) da_nil))))))
theorem dd_Rhythm___init__ {P : Program} {w : World} {K : PySem.W.Frag} {mg : Str → Option Value} {base : Heap} {S : Type} {C : Cc S} (hCK : K = C.K) (hcad : C.cad = He.ga K) (T : Txt K mg) {fd : FuncData} (Fn : Fun K "__init__" "Rhythm.__init__" s_Rhythm___init__ (He.ma K (He.ga K "Rhythm") "__init__") fd)
  {fd_is_number : FuncData} (F_is_number : Fun K "is_number" "is_number" s_is_number (He.ga K "is_number") fd_is_number) (B_is_number : Binds K fd_is_number ["thing"] [])
  (G_is_number : FnOk P w K mg base (L2.CX P w) 1 (He.ga K "is_number") fd_is_number ["thing"] (spD C 1 (sem_is_number cs)))
  {fd_are_different : FuncData} (F_are_different : Fun K "are_different" "are_different" s_are_different (He.ga K "are_different") fd_are_different) (B_are_different : Binds K fd_are_different ["thing", "least", "most"] [])
  (G_are_different : FnOk P w K mg base (L2.CX P w) 2 (He.ga K "are_different") fd_are_different ["thing", "least", "most"] (spD C 3 (sem_are_different cs)))
  {fd_least_form : FuncData} (F_least_form : Fun K "least_form" "least_form" s_least_form (He.ga K "least_form") fd_least_form) (B_least_form : Binds K fd_least_form ["size", "rests"] [])
  (G_least_form : FnOk P w K mg base (L2.CX P w) 2 (He.ga K "least_form") fd_least_form ["size", "rests"] (spD C 2 sem_least_form)) :
  FnOk P w K mg base (L2.CX P w) 3 (He.ma K (He.ga K "Rhythm") "__init__") fd ["self", "size", "rests"] (spI C "Rhythm" 2 (sem_Rhythm___init__ cs)) := by
  refine fn_init (N := NE_Rhythm___init__) (rd := rd_Rhythm___init__ cs) (n := 2) Fn sc_Rhythm___init__ rfl rfn_Rhythm___init__ fun cdv A outer s H G xx E hr => ?_
  have nd := sc_Rhythm___init__.nd
  have hK : (cxOf (L2.CX P w) P w K mg base NE_Rhythm___init__ "Rhythm.__init__" (defScope s_Rhythm___init__) (He.ma K (He.ga K "Rhythm") "__init__") cdv A outer s H E).K = (fxI C G H xx E).K := hCK
  have tk : Takes (cxOf (L2.CX P w) P w K mg base NE_Rhythm___init__ "Rhythm.__init__" (defScope s_Rhythm___init__) (He.ma K (He.ga K "Rhythm") "__init__") cdv A outer s H E) (fxI C G H xx E).wish := takes_of rfl rfl rfl rfl
  exact (dss_cons (ds_if (PW.pt (dw_or (dt_not (dt_val (de_call G_is_number tk (hr.mono (by decide)) rfl T.glo_is_number F_is_number.kp B_is_number .nil DfR.nil (da_cons (de_var 1 (pv 1)) da_nil)))) (dw_or1 (dt_not (dt_chain op_le od_le op_le od_le de_int (de_var 1 (pv 1)) (de_gint rfl T.int_MOST_SIZE)))))) (dss_one ds_no) dss_nil)
    (dss_cons (ds_if (dt_not (dt_val (de_call G_are_different tk (hr.mono (by decide)) rfl T.glo_are_different F_are_different.kp B_are_different .nil DfR.nil (da_cons (de_var 2 (pv 2)) (da_cons de_int (da_cons (de_op op_sub od_sub (de_var 1 (pv 1)) de_int) da_nil)))))) (dss_one ds_no) dss_nil)
    (dss_one (ds_fld hK (by rw [show (fxI C G H xx E).cad = He.ga K from hcad]; exact T.cls_Rhythm) (by rw [show (fxI C G H xx E).cad = He.ga K from hcad]; exact T.noat_Rhythm_own_form) (pv 0) (de_call G_least_form tk (hr.mono (by decide)) rfl T.glo_least_form F_least_form.kp B_least_form .nil DfR.nil (da_cons (de_var 1 (pv 1)) (da_cons (de_callTy call_list_of (cd_list hK) rfl T.free_list (by decide +kernel) (da_cons (de_var 2 (pv 2)) da_nil)) da_nil)))))))
theorem dd__law_real0 {P : Program} {w : World} {K : PySem.W.Frag} {mg : Str → Option Value} {base : Heap} {S : Type} {C : Cc S} (hCK : K = C.K) (hcad : C.cad = He.ga K) (T : Txt K mg) {fd : FuncData} (Fn : Fun K "_law_real" "_law_real" s__law_real0 (He.ga K "_law_real") fd)
   :
  FnOk P w K mg base (L2.CX P w) 0 (He.ga K "_law_real") fd ["_law_step"] (spD C 1 sem__law_real0) := by
  exact fn_bot rfl
theorem dd__law_real1 {P : Program} {w : World} {K : PySem.W.Frag} {mg : Str → Option Value} {base : Heap} {S : Type} {C : Cc S} (hCK : K = C.K) (hcad : C.cad = He.ga K) (T : Txt K mg) {fd : FuncData} (Fn : Fun K "_law_real" "_law_real" s__law_real1 (He.ga K "_law_real") fd)
  {fd_Rhythm___init__ : FuncData} (F_Rhythm___init__ : Fun K "__init__" "Rhythm.__init__" s_Rhythm___init__ (He.ma K (He.ga K "Rhythm") "__init__") fd_Rhythm___init__) (B_Rhythm___init__ : Binds K fd_Rhythm___init__ ["self", "size", "rests"] [])
  (G_Rhythm___init__ : FnOk P w K mg base (L2.CX P w) 3 (He.ma K (He.ga K "Rhythm") "__init__") fd_Rhythm___init__ ["self", "size", "rests"] (spI C "Rhythm" 2 (sem_Rhythm___init__ cs)))
  {fd__law_real0 : FuncData} (F__law_real0 : Fun K "_law_real" "_law_real" s__law_real0 (He.ga K "_law_real") fd__law_real0) (B__law_real0 : Binds K fd__law_real0 ["_law_step"] [])
  (G__law_real0 : FnOk P w K mg base (L2.CX P w) 0 (He.ga K "_law_real") fd__law_real0 ["_law_step"] (spD C 1 sem__law_real0)) :
  FnOk P w K mg base (L2.CX P w) 5 (He.ga K "_law_real") fd ["_law_step"] (spD C 1 (sem__law_real1 cs)) := by
  refine fn_body (N := NE__law_real1) (rd := rd__law_real1 cs) Fn sc__law_real1 rfn__law_real1 fun cdv A outer s H G E hr => ?_
  have nd := sc__law_real1.nd
  have hK : (cxOf (L2.CX P w) P w K mg base NE__law_real1 "_law_real" (defScope s__law_real1) (He.ga K "_law_real") cdv A outer s H E).K = (fxOf C G H E).K := hCK
  have tk : Takes (cxOf (L2.CX P w) P w K mg base NE__law_real1 "_law_real" (defScope s__law_real1) (He.ga K "_law_real") cdv A outer s H E) (fxOf C G H E).wish := takes_of rfl rfl rfl rfl
  exact (dss_cons (ds_if (dt_cmp op_in_seq (od_in false hK) (de_ix ix_seq (od_ix hK) (de_var 0 (pv 0)) de_int (fun _ _ => rfl)) (de_tup (da_cons de_str (da_cons de_str (da_cons de_str da_nil)))) (by rfl)) (dss_one (ds_ret (de_op or_add (od_add hK) (de_op or_add (od_add hK) (de_slice hK (de_var 0 (pv 0)) do_none (do_some de_int)) (de_tup (da_cons (de_make (congrFun hcad "Rhythm") T.mk_Rhythm G_Rhythm___init__ tk (hr.mono (by decide)) rfl T.glo_Rhythm B_Rhythm___init__ .nil DfR.nil (da_cons (de_ix ix_seq (od_ix hK) (de_ix ix_seq (od_ix hK) (de_var 0 (pv 0)) de_int (fun _ _ => rfl)) de_int (fun _ _ => rfl)) (da_cons (de_ix ix_seq (od_ix hK) (de_ix ix_seq (od_ix hK) (de_var 0 (pv 0)) de_int (fun _ _ => rfl)) de_int (fun _ _ => rfl)) da_nil))) da_nil))) (de_slice hK (de_var 0 (pv 0)) (do_some de_int) do_none)))) dss_nil)
    (dss_cons (ds_if (dt_cmp (op_eqD hr.units) (od_eq hK) (de_ix ix_seq (od_ix hK) (de_var 0 (pv 0)) de_int (fun _ _ => rfl)) de_str (by rfl)) (dss_one (ds_ret (de_op or_add (od_add hK) (de_slice hK (de_var 0 (pv 0)) do_none (do_some de_int)) (de_tup (da_cons (de_callTy call_tuple_of (cd_tuple hK) rfl T.free_tuple (by decide +kernel) (da_cons (de_lc (own := [("_law_inner", 1)]) (g := gName 1) rfl nd (di_seq hK (de_ix ix_seq (od_ix hK) (de_var 0 (pv 0)) de_int (fun _ _ => rfl))) (blkOk_by (N := NE__law_real1) (sc := defScope s__law_real1) (by decide +kernel)) (gw_name (by decide)) (fun _ _ _ _ _ => pg_name (i := 1) nd rfl (Or.inl rfl)) (fun _ _ _ _ _ => dts_nil) (fun _ _ _ _ _ => (de_call G__law_real0 takes0 (hr.mono (by decide)) rfl T.glo__law_real F__law_real0.kp B__law_real0 .nil DfR.nil (da_cons (de_var 1 (pv 1)) da_nil)))) da_nil)) da_nil))))) dss_nil)
    (dss_one (ds_ret (de_var 0 (pv 0))))))
theorem dd__law_real2 {P : Program} {w : World} {K : PySem.W.Frag} {mg : Str → Option Value} {base : Heap} {S : Type} {C : Cc S} (hCK : K = C.K) (hcad : C.cad = He.ga K) (T : Txt K mg) {fd : FuncData} (Fn : Fun K "_law_real" "_law_real" s__law_real2 (He.ga K "_law_real") fd)
  {fd_Rhythm___init__ : FuncData} (F_Rhythm___init__ : Fun K "__init__" "Rhythm.__init__" s_Rhythm___init__ (He.ma K (He.ga K "Rhythm") "__init__") fd_Rhythm___init__) (B_Rhythm___init__ : Binds K fd_Rhythm___init__ ["self", "size", "rests"] [])
  (G_Rhythm___init__ : FnOk P w K mg base (L2.CX P w) 3 (He.ma K (He.ga K "Rhythm") "__init__") fd_Rhythm___init__ ["self", "size", "rests"] (spI C "Rhythm" 2 (sem_Rhythm___init__ cs)))
  {fd__law_real1 : FuncData} (F__law_real1 : Fun K "_law_real" "_law_real" s__law_real1 (He.ga K "_law_real") fd__law_real1) (B__law_real1 : Binds K fd__law_real1 ["_law_step"] [])
  (G__law_real1 : FnOk P w K mg base (L2.CX P w) 5 (He.ga K "_law_real") fd__law_real1 ["_law_step"] (spD C 1 (sem__law_real1 cs))) :
  FnOk P w K mg base (L2.CX P w) 6 (He.ga K "_law_real") fd ["_law_step"] (spD C 1 (sem__law_real2 cs)) := by
  refine fn_body (N := NE__law_real2) (rd := rd__law_real2 cs) Fn sc__law_real2 rfn__law_real2 fun cdv A outer s H G E hr => ?_
  have nd := sc__law_real2.nd
  have hK : (cxOf (L2.CX P w) P w K mg base NE__law_real2 "_law_real" (defScope s__law_real2) (He.ga K "_law_real") cdv A outer s H E).K = (fxOf C G H E).K := hCK
  have tk : Takes (cxOf (L2.CX P w) P w K mg base NE__law_real2 "_law_real" (defScope s__law_real2) (He.ga K "_law_real") cdv A outer s H E) (fxOf C G H E).wish := takes_of rfl rfl rfl rfl
  exact (dss_cons (ds_if (dt_cmp op_in_seq (od_in false hK) (de_ix ix_seq (od_ix hK) (de_var 0 (pv 0)) de_int (fun _ _ => rfl)) (de_tup (da_cons de_str (da_cons de_str (da_cons de_str da_nil)))) (by rfl)) (dss_one (ds_ret (de_op or_add (od_add hK) (de_op or_add (od_add hK) (de_slice hK (de_var 0 (pv 0)) do_none (do_some de_int)) (de_tup (da_cons (de_make (congrFun hcad "Rhythm") T.mk_Rhythm G_Rhythm___init__ tk (hr.mono (by decide)) rfl T.glo_Rhythm B_Rhythm___init__ .nil DfR.nil (da_cons (de_ix ix_seq (od_ix hK) (de_ix ix_seq (od_ix hK) (de_var 0 (pv 0)) de_int (fun _ _ => rfl)) de_int (fun _ _ => rfl)) (da_cons (de_ix ix_seq (od_ix hK) (de_ix ix_seq (od_ix hK) (de_var 0 (pv 0)) de_int (fun _ _ => rfl)) de_int (fun _ _ => rfl)) da_nil))) da_nil))) (de_slice hK (de_var 0 (pv 0)) (do_some de_int) do_none)))) dss_nil)
    (dss_cons (ds_if (dt_cmp (op_eqD hr.units) (od_eq hK) (de_ix ix_seq (od_ix hK) (de_var 0 (pv 0)) de_int (fun _ _ => rfl)) de_str (by rfl)) (dss_one (ds_ret (de_op or_add (od_add hK) (de_slice hK (de_var 0 (pv 0)) do_none (do_some de_int)) (de_tup (da_cons (de_callTy call_tuple_of (cd_tuple hK) rfl T.free_tuple (by decide +kernel) (da_cons (de_lc (own := [("_law_inner", 1)]) (g := gName 1) rfl nd (di_seq hK (de_ix ix_seq (od_ix hK) (de_var 0 (pv 0)) de_int (fun _ _ => rfl))) (blkOk_by (N := NE__law_real2) (sc := defScope s__law_real2) (by decide +kernel)) (gw_name (by decide)) (fun _ _ _ _ _ => pg_name (i := 1) nd rfl (Or.inl rfl)) (fun _ _ _ _ _ => dts_nil) (fun _ _ _ _ _ => (de_call G__law_real1 takes0 (hr.mono (by decide)) rfl T.glo__law_real F__law_real1.kp B__law_real1 .nil DfR.nil (da_cons (de_var 1 (pv 1)) da_nil)))) da_nil)) da_nil))))) dss_nil)
    (dss_one (ds_ret (de_var 0 (pv 0))))))
theorem dd__law_made {P : Program} {w : World} {K : PySem.W.Frag} {mg : Str → Option Value} {base : Heap} {S : Type} {C : Cc S} (hCK : K = C.K) (hcad : C.cad = He.ga K) (T : Txt K mg) {fd : FuncData} (Fn : Fun K "_law_made" "_law_made" s__law_made (He.ga K "_law_made") fd)
  {fd_Script___init__ : FuncData} (F_Script___init__ : FunD K "__init__" "Script.__init__" (defArgs s_Script___init__) (defBody s_Script___init__) (defScope s_Script___init__) [.ref (dflA (fun K => (He.ma K (He.ga K "Script") "__init__")) 0 K)] [] (He.ma K (He.ga K "Script") "__init__") fd_Script___init__) (B_Script___init__ : Binds K fd_Script___init__ ["self", "steps"] [])
  (G_Script___init__ : FnOk P w K mg base (L2.CX P w) 6 (He.ma K (He.ga K "Script") "__init__") fd_Script___init__ ["self", "steps"] (spI C "Script" 1 (sem_Script___init__ cs)))
  {fd__law_real2 : FuncData} (F__law_real2 : Fun K "_law_real" "_law_real" s__law_real2 (He.ga K "_law_real") fd__law_real2) (B__law_real2 : Binds K fd__law_real2 ["_law_step"] [])
  (G__law_real2 : FnOk P w K mg base (L2.CX P w) 6 (He.ga K "_law_real") fd__law_real2 ["_law_step"] (spD C 1 (sem__law_real2 cs))) :
  FnOk P w K mg base (L2.CX P w) 8 (He.ga K "_law_made") fd ["_law_steps_here"] (spD C 1 (sem__law_made cs)) := by
  refine fn_body (N := NE__law_made) (rd := rd__law_made cs) Fn sc__law_made rfn__law_made fun cdv A outer s H G E hr => ?_
  have nd := sc__law_made.nd
  have hK : (cxOf (L2.CX P w) P w K mg base NE__law_made "_law_made" (defScope s__law_made) (He.ga K "_law_made") cdv A outer s H E).K = (fxOf C G H E).K := hCK
  have tk : Takes (cxOf (L2.CX P w) P w K mg base NE__law_made "_law_made" (defScope s__law_made) (He.ga K "_law_made") cdv A outer s H E) (fxOf C G H E).wish := takes_of rfl rfl rfl rfl
  exact (dss_one (ds_ret (de_make (congrFun hcad "Script") T.mk_Script G_Script___init__ tk (hr.mono (by decide)) rfl T.glo_Script B_Script___init__ .nil DfR.nil (da_cons (de_lc (own := [("_law_step", 1)]) (g := gName 1) rfl nd (di_seq hK (de_var 0 (pv 0))) (blkOk_by (N := NE__law_made) (sc := defScope s__law_made) (by decide +kernel)) (gw_name (by decide)) (fun _ _ _ _ _ => pg_name (i := 1) nd rfl (Or.inl rfl)) (fun _ _ _ _ _ => dts_nil) (fun _ _ _ _ _ => (de_call G__law_real2 takes0 (hr.mono (by decide)) rfl T.glo__law_real F__law_real2.kp B__law_real2 .nil DfR.nil (da_cons (de_var 1 (pv 1)) da_nil)))) da_nil))))
theorem dd_Script___add__ {P : Program} {w : World} {K : PySem.W.Frag} {mg : Str → Option Value} {base : Heap} {S : Type} {C : Cc S} (hCK : K = C.K) (hcad : C.cad = He.ga K) (T : Txt K mg) {fd : FuncData} (Fn : Fun K "__add__" "Script.__add__" s_Script___add__ (He.ma K (He.ga K "Script") "__add__") fd)
  {fd_Script___init__ : FuncData} (F_Script___init__ : FunD K "__init__" "Script.__init__" (defArgs s_Script___init__) (defBody s_Script___init__) (defScope s_Script___init__) [.ref (dflA (fun K => (He.ma K (He.ga K "Script") "__init__")) 0 K)] [] (He.ma K (He.ga K "Script") "__init__") fd_Script___init__) (B_Script___init__ : Binds K fd_Script___init__ ["self", "steps"] [])
  (G_Script___init__ : FnOk P w K mg base (L2.CX P w) 6 (He.ma K (He.ga K "Script") "__init__") fd_Script___init__ ["self", "steps"] (spI C "Script" 1 (sem_Script___init__ cs))) :
  FnOk P w K mg base (L2.CX P w) 8 (He.ma K (He.ga K "Script") "__add__") fd ["self", "other"] (spD C 2 (sem_Script___add__ cs)) := by
  refine fn_body (N := NE_Script___add__) (rd := rd_Script___add__ cs) Fn sc_Script___add__ rfn_Script___add__ fun cdv A outer s H G E hr => ?_
  have nd := sc_Script___add__.nd
  have hK : (cxOf (L2.CX P w) P w K mg base NE_Script___add__ "Script.__add__" (defScope s_Script___add__) (He.ma K (He.ga K "Script") "__add__") cdv A outer s H E).K = (fxOf C G H E).K := hCK
  have tk : Takes (cxOf (L2.CX P w) P w K mg base NE_Script___add__ "Script.__add__" (defScope s_Script___add__) (He.ma K (He.ga K "Script") "__add__") cdv A outer s H E) (fxOf C G H E).wish := takes_of rfl rfl rfl rfl
  exact (dss_cons (ds_if (dt_not (dt_val (de_isi hK (T.kit_own_Script hCK hcad) (.own _) (de_var 1 (pv 1)) (pe_glob rfl T.glo_Script rfl) rfl T.free_isinstance))) (dss_one ds_no) dss_nil)
    (dss_one (ds_ret (de_make (congrFun hcad "Script") T.mk_Script G_Script___init__ tk (hr.mono (by decide)) rfl T.glo_Script B_Script___init__ .nil DfR.nil (da_cons (de_op or_add (od_add hK) (de_fldC hK (congrFun hcad "Script") T.cls_Script T.noat_Script_own_steps (de_var 0 (pv 0))) (de_fldC hK (congrFun hcad "Script") T.cls_Script T.noat_Script_own_steps (de_var 1 (pv 1)))) da_nil)))))
theorem dd_behind_all0 {P : Program} {w : World} {K : PySem.W.Frag} {mg : Str → Option Value} {base : Heap} {S : Type} {C : Cc S} (hCK : K = C.K) (hcad : C.cad = He.ga K) (T : Txt K mg) {fd : FuncData} (Fn : Fun K "behind_all" "behind_all" s_behind_all0 (He.ga K "behind_all") fd)
   :
  FnOk P w K mg base (L2.CX P w) 0 (He.ga K "behind_all") fd ["steps", "day"] (spD C 2 sem_behind_all0) := by
  exact fn_bot rfl
theorem dd_Rhythm___contains__ {P : Program} {w : World} {K : PySem.W.Frag} {mg : Str → Option Value} {base : Heap} {S : Type} {C : Cc S} (hCK : K = C.K) (hcad : C.cad = He.ga K) (T : Txt K mg) {fd : FuncData} (Fn : Fun K "__contains__" "Rhythm.__contains__" s_Rhythm___contains__ (He.ma K (He.ga K "Rhythm") "__contains__") fd)
  {fd_is_number : FuncData} (F_is_number : Fun K "is_number" "is_number" s_is_number (He.ga K "is_number") fd_is_number) (B_is_number : Binds K fd_is_number ["thing"] [])
  (G_is_number : FnOk P w K mg base (L2.CX P w) 1 (He.ga K "is_number") fd_is_number ["thing"] (spD C 1 (sem_is_number cs))) :
  FnOk P w K mg base (L2.CX P w) 2 (He.ma K (He.ga K "Rhythm") "__contains__") fd ["self", "day"] (spD C 2 (sem_Rhythm___contains__ cs)) := by
  refine fn_body (N := NE_Rhythm___contains__) (rd := rd_Rhythm___contains__ cs) Fn sc_Rhythm___contains__ rfn_Rhythm___contains__ fun cdv A outer s H G E hr => ?_
  have nd := sc_Rhythm___contains__.nd
  have hK : (cxOf (L2.CX P w) P w K mg base NE_Rhythm___contains__ "Rhythm.__contains__" (defScope s_Rhythm___contains__) (He.ma K (He.ga K "Rhythm") "__contains__") cdv A outer s H E).K = (fxOf C G H E).K := hCK
  have tk : Takes (cxOf (L2.CX P w) P w K mg base NE_Rhythm___contains__ "Rhythm.__contains__" (defScope s_Rhythm___contains__) (He.ma K (He.ga K "Rhythm") "__contains__") cdv A outer s H E) (fxOf C G H E).wish := takes_of rfl rfl rfl rfl
  exact (dss_one (ds_ret (de_and hK (de_call G_is_number tk (hr.mono (by decide)) rfl T.glo_is_number F_is_number.kp B_is_number .nil DfR.nil (da_cons (de_var 1 (pv 1)) da_nil)) (de_one (de_cmp op_in_seq (od_in false hK) (de_op op_mod od_mod (de_var 1 (pv 1)) (de_ix ix_seq (od_ix hK) (de_fldC hK (congrFun hcad "Rhythm") T.cls_Rhythm T.noat_Rhythm_own_form (de_var 0 (pv 0))) de_int (fun _ _ => rfl))) (de_ix ix_seq (od_ix hK) (de_fldC hK (congrFun hcad "Rhythm") T.cls_Rhythm T.noat_Rhythm_own_form (de_var 0 (pv 0))) de_int (fun _ _ => rfl)) (by rfl))))))
theorem dd_holds {P : Program} {w : World} {K : PySem.W.Frag} {mg : Str → Option Value} {base : Heap} {S : Type} {C : Cc S} (hCK : K = C.K) (hcad : C.cad = He.ga K) (T : Txt K mg) {fd : FuncData} (Fn : Fun K "holds" "holds" s_holds (He.ga K "holds") fd)
  {fd_Rhythm___contains__ : FuncData} (F_Rhythm___contains__ : Fun K "__contains__" "Rhythm.__contains__" s_Rhythm___contains__ (He.ma K (He.ga K "Rhythm") "__contains__") fd_Rhythm___contains__) (B_Rhythm___contains__ : Binds K fd_Rhythm___contains__ ["self", "day"] [])
  (G_Rhythm___contains__ : FnOk P w K mg base (L2.CX P w) 2 (He.ma K (He.ga K "Rhythm") "__contains__") fd_Rhythm___contains__ ["self", "day"] (spD C 2 (sem_Rhythm___contains__ cs))) :
  FnOk P w K mg base (L2.CX P w) 3 (He.ga K "holds") fd ["step", "day"] (spD C 2 (sem_holds cs)) := by
  refine fn_body (N := NE_holds) (rd := rd_holds cs) Fn sc_holds rfn_holds fun cdv A outer s H G E hr => ?_
  have nd := sc_holds.nd
  have hK : (cxOf (L2.CX P w) P w K mg base NE_holds "holds" (defScope s_holds) (He.ga K "holds") cdv A outer s H E).K = (fxOf C G H E).K := hCK
  have tk : Takes (cxOf (L2.CX P w) P w K mg base NE_holds "holds" (defScope s_holds) (He.ga K "holds") cdv A outer s H E) (fxOf C G H E).wish := takes_of rfl rfl rfl rfl
  exact (dss_cons (ds_asg (de_ix ix_seq (od_ix hK) (de_var 0 (pv 0)) de_int (fun _ _ => rfl)) (dg_name 2 (pg_name (i := 2) nd rfl (.inl rfl))))
    (dss_cons (ds_if (dt_cmp (op_eqD hr.units) (od_eq hK) (de_var 2 (pv 2)) (de_gstr rfl T.str_KEEP) (by rfl)) (dss_one (ds_ret (de_cmp (OpR_or (or_ownIn G_Rhythm___contains__ (hr.mono (by decide)) B_Rhythm___contains__ (passes_F tk) T.meth_Rhythm___contains__.at_ T.meth_Rhythm___contains__.fn) op_in_seq) (od_or (od_ownIn false (congrFun hcad "Rhythm")) (od_in false hK)) (de_var 1 (pv 1)) (de_ix ix_seq (od_ix hK) (de_var 0 (pv 0)) de_int (fun _ _ => rfl)) (by rfl)))) dss_nil)
    (dss_cons (ds_if (dt_cmp (op_eqD hr.units) (od_eq hK) (de_var 2 (pv 2)) (de_gstr rfl T.str_STRIKE) (by rfl)) (dss_one (ds_ret (de_cmp (OpR_or (or_ownNotIn G_Rhythm___contains__ (hr.mono (by decide)) B_Rhythm___contains__ (passes_F tk) T.meth_Rhythm___contains__.at_ T.meth_Rhythm___contains__.fn) op_notIn_seq) (od_or (od_ownIn true (congrFun hcad "Rhythm")) (od_in true hK)) (de_var 1 (pv 1)) (de_ix ix_seq (od_ix hK) (de_var 0 (pv 0)) de_int (fun _ _ => rfl)) (by rfl)))) dss_nil)
    (dss_one (ds_ret (de_if (dt_cmp (op_eqD hr.units) (od_eq hK) (de_var 2 (pv 2)) (de_gstr rfl T.str_FROM) (by rfl)) (de_cmp op_ge od_ge (de_var 1 (pv 1)) (de_ix ix_seq (od_ix hK) (de_var 0 (pv 0)) de_int (fun _ _ => rfl)) (by rfl)) (de_cmp op_le od_le (de_var 1 (pv 1)) (de_ix ix_seq (od_ix hK) (de_var 0 (pv 0)) de_int (fun _ _ => rfl)) (by rfl))))))))
theorem dd_behind1 {P : Program} {w : World} {K : PySem.W.Frag} {mg : Str → Option Value} {base : Heap} {S : Type} {C : Cc S} (hCK : K = C.K) (hcad : C.cad = He.ga K) (T : Txt K mg) {fd : FuncData} (Fn : Fun K "behind" "behind" s_behind1 (He.ga K "behind") fd)
  {fd_behind_all0 : FuncData} (F_behind_all0 : Fun K "behind_all" "behind_all" s_behind_all0 (He.ga K "behind_all") fd_behind_all0) (B_behind_all0 : Binds K fd_behind_all0 ["steps", "day"] [])
  (G_behind_all0 : FnOk P w K mg base (L2.CX P w) 0 (He.ga K "behind_all") fd_behind_all0 ["steps", "day"] (spD C 2 sem_behind_all0))
  {fd_holds : FuncData} (F_holds : Fun K "holds" "holds" s_holds (He.ga K "holds") fd_holds) (B_holds : Binds K fd_holds ["step", "day"] [])
  (G_holds : FnOk P w K mg base (L2.CX P w) 3 (He.ga K "holds") fd_holds ["step", "day"] (spD C 2 (sem_holds cs))) :
  FnOk P w K mg base (L2.CX P w) 4 (He.ga K "behind") fd ["step", "day"] (spD C 2 (sem_behind1 cs)) := by
  refine fn_body (N := NE_behind1) (rd := rd_behind1 cs) Fn sc_behind1 rfn_behind1 fun cdv A outer s H G E hr => ?_
  have nd := sc_behind1.nd
  have hK : (cxOf (L2.CX P w) P w K mg base NE_behind1 "behind" (defScope s_behind1) (He.ga K "behind") cdv A outer s H E).K = (fxOf C G H E).K := hCK
  have tk : Takes (cxOf (L2.CX P w) P w K mg base NE_behind1 "behind" (defScope s_behind1) (He.ga K "behind") cdv A outer s H E) (fxOf C G H E).wish := takes_of rfl rfl rfl rfl
  exact (dss_cons (ds_if (dt_cmp (op_eqD hr.units) (od_eq hK) (de_ix ix_seq (od_ix hK) (de_var 0 (pv 0)) de_int (fun _ _ => rfl)) (de_gstr rfl T.str_SHIFT) (by rfl)) (dss_one (ds_ret (de_op or_add (od_add hK) (de_var 1 (pv 1)) (de_ix ix_seq (od_ix hK) (de_var 0 (pv 0)) de_int (fun _ _ => rfl))))) dss_nil)
    (dss_cons (ds_if (dt_cmp (op_eqD hr.units) (od_eq hK) (de_ix ix_seq (od_ix hK) (de_var 0 (pv 0)) de_int (fun _ _ => rfl)) (de_gstr rfl T.str_SINCE) (by rfl)) (dss_one (ds_ret (de_if (dt_cmp op_ge od_ge (de_var 1 (pv 1)) (de_ix ix_seq (od_ix hK) (de_var 0 (pv 0)) de_int (fun _ _ => rfl)) (by rfl)) (de_call G_behind_all0 tk (hr.mono (by decide)) rfl T.glo_behind_all F_behind_all0.kp B_behind_all0 .nil DfR.nil (da_cons (de_ix ix_seq (od_ix hK) (de_var 0 (pv 0)) de_int (fun _ _ => rfl)) (da_cons (de_var 1 (pv 1)) da_nil))) (de_var 1 (pv 1))))) dss_nil)
    (dss_one (ds_ret (de_if (PW.pt (dw_or (dt_cmp (op_eqD hr.units) (od_eq hK) (de_ix ix_seq (od_ix hK) (de_var 0 (pv 0)) de_int (fun _ _ => rfl)) (de_gstr rfl T.str_ADD) (by rfl)) (dw_or1 (dt_val (de_call G_holds tk (hr.mono (by decide)) rfl T.glo_holds F_holds.kp B_holds .nil DfR.nil (da_cons (de_var 0 (pv 0)) (da_cons (de_var 1 (pv 1)) da_nil))))))) (de_var 1 (pv 1)) de_non)))))
theorem dd_behind_all1 {P : Program} {w : World} {K : PySem.W.Frag} {mg : Str → Option Value} {base : Heap} {S : Type} {C : Cc S} (hCK : K = C.K) (hcad : C.cad = He.ga K) (T : Txt K mg) {fd : FuncData} (Fn : Fun K "behind_all" "behind_all" s_behind_all1 (He.ga K "behind_all") fd)
  {fd_behind1 : FuncData} (F_behind1 : Fun K "behind" "behind" s_behind1 (He.ga K "behind") fd_behind1) (B_behind1 : Binds K fd_behind1 ["step", "day"] [])
  (G_behind1 : FnOk P w K mg base (L2.CX P w) 4 (He.ga K "behind") fd_behind1 ["step", "day"] (spD C 2 (sem_behind1 cs))) :
  FnOk P w K mg base (L2.CX P w) 5 (He.ga K "behind_all") fd ["steps", "day"] (spD C 2 (sem_behind_all1 cs)) := by
  refine fn_body (N := NE_behind_all1) (rd := rd_behind_all1 cs) Fn sc_behind_all1 rfn_behind_all1 fun cdv A outer s H G E hr => ?_
  have nd := sc_behind_all1.nd
  have hK : (cxOf (L2.CX P w) P w K mg base NE_behind_all1 "behind_all" (defScope s_behind_all1) (He.ga K "behind_all") cdv A outer s H E).K = (fxOf C G H E).K := hCK
  have tk : Takes (cxOf (L2.CX P w) P w K mg base NE_behind_all1 "behind_all" (defScope s_behind_all1) (He.ga K "behind_all") cdv A outer s H E) (fxOf C G H E).wish := takes_of rfl rfl rfl rfl
  exact (dss_cons (ds_for (passes_of rfl) rfl (di_seq hK (de_var 0 (pv 0))) (dg_name 2 (pg_name (i := 2) nd rfl (.inl rfl))) (dss_one (ds_if (dt_cmp op_notN od_notN (de_var 1 (pv 1)) de_non (by rfl)) (dss_one (ds_asg (de_call G_behind1 tk (hr.mono (by decide)) rfl T.glo_behind F_behind1.kp B_behind1 .nil DfR.nil (da_cons (de_var 2 (pv 2)) (da_cons (de_var 1 (pv 1)) da_nil))) (dg_name 1 (pg_name (i := 1) nd rfl (.inl rfl))))) dss_nil)))
    (dss_one (ds_ret (de_var 1 (pv 1)))))
theorem dd_behind2 {P : Program} {w : World} {K : PySem.W.Frag} {mg : Str → Option Value} {base : Heap} {S : Type} {C : Cc S} (hCK : K = C.K) (hcad : C.cad = He.ga K) (T : Txt K mg) {fd : FuncData} (Fn : Fun K "behind" "behind" s_behind2 (He.ga K "behind") fd)
  {fd_behind_all1 : FuncData} (F_behind_all1 : Fun K "behind_all" "behind_all" s_behind_all1 (He.ga K "behind_all") fd_behind_all1) (B_behind_all1 : Binds K fd_behind_all1 ["steps", "day"] [])
  (G_behind_all1 : FnOk P w K mg base (L2.CX P w) 5 (He.ga K "behind_all") fd_behind_all1 ["steps", "day"] (spD C 2 (sem_behind_all1 cs)))
  {fd_holds : FuncData} (F_holds : Fun K "holds" "holds" s_holds (He.ga K "holds") fd_holds) (B_holds : Binds K fd_holds ["step", "day"] [])
  (G_holds : FnOk P w K mg base (L2.CX P w) 3 (He.ga K "holds") fd_holds ["step", "day"] (spD C 2 (sem_holds cs))) :
  FnOk P w K mg base (L2.CX P w) 6 (He.ga K "behind") fd ["step", "day"] (spD C 2 (sem_behind2 cs)) := by
  refine fn_body (N := NE_behind2) (rd := rd_behind2 cs) Fn sc_behind2 rfn_behind2 fun cdv A outer s H G E hr => ?_
  have nd := sc_behind2.nd
  have hK : (cxOf (L2.CX P w) P w K mg base NE_behind2 "behind" (defScope s_behind2) (He.ga K "behind") cdv A outer s H E).K = (fxOf C G H E).K := hCK
  have tk : Takes (cxOf (L2.CX P w) P w K mg base NE_behind2 "behind" (defScope s_behind2) (He.ga K "behind") cdv A outer s H E) (fxOf C G H E).wish := takes_of rfl rfl rfl rfl
  exact (dss_cons (ds_if (dt_cmp (op_eqD hr.units) (od_eq hK) (de_ix ix_seq (od_ix hK) (de_var 0 (pv 0)) de_int (fun _ _ => rfl)) (de_gstr rfl T.str_SHIFT) (by rfl)) (dss_one (ds_ret (de_op or_add (od_add hK) (de_var 1 (pv 1)) (de_ix ix_seq (od_ix hK) (de_var 0 (pv 0)) de_int (fun _ _ => rfl))))) dss_nil)
    (dss_cons (ds_if (dt_cmp (op_eqD hr.units) (od_eq hK) (de_ix ix_seq (od_ix hK) (de_var 0 (pv 0)) de_int (fun _ _ => rfl)) (de_gstr rfl T.str_SINCE) (by rfl)) (dss_one (ds_ret (de_if (dt_cmp op_ge od_ge (de_var 1 (pv 1)) (de_ix ix_seq (od_ix hK) (de_var 0 (pv 0)) de_int (fun _ _ => rfl)) (by rfl)) (de_call G_behind_all1 tk (hr.mono (by decide)) rfl T.glo_behind_all F_behind_all1.kp B_behind_all1 .nil DfR.nil (da_cons (de_ix ix_seq (od_ix hK) (de_var 0 (pv 0)) de_int (fun _ _ => rfl)) (da_cons (de_var 1 (pv 1)) da_nil))) (de_var 1 (pv 1))))) dss_nil)
    (dss_one (ds_ret (de_if (PW.pt (dw_or (dt_cmp (op_eqD hr.units) (od_eq hK) (de_ix ix_seq (od_ix hK) (de_var 0 (pv 0)) de_int (fun _ _ => rfl)) (de_gstr rfl T.str_ADD) (by rfl)) (dw_or1 (dt_val (de_call G_holds tk (hr.mono (by decide)) rfl T.glo_holds F_holds.kp B_holds .nil DfR.nil (da_cons (de_var 0 (pv 0)) (da_cons (de_var 1 (pv 1)) da_nil))))))) (de_var 1 (pv 1)) de_non)))))
theorem dd_behind_all2 {P : Program} {w : World} {K : PySem.W.Frag} {mg : Str → Option Value} {base : Heap} {S : Type} {C : Cc S} (hCK : K = C.K) (hcad : C.cad = He.ga K) (T : Txt K mg) {fd : FuncData} (Fn : Fun K "behind_all" "behind_all" s_behind_all2 (He.ga K "behind_all") fd)
  {fd_behind2 : FuncData} (F_behind2 : Fun K "behind" "behind" s_behind2 (He.ga K "behind") fd_behind2) (B_behind2 : Binds K fd_behind2 ["step", "day"] [])
  (G_behind2 : FnOk P w K mg base (L2.CX P w) 6 (He.ga K "behind") fd_behind2 ["step", "day"] (spD C 2 (sem_behind2 cs))) :
  FnOk P w K mg base (L2.CX P w) 7 (He.ga K "behind_all") fd ["steps", "day"] (spD C 2 (sem_behind_all2 cs)) := by
  refine fn_body (N := NE_behind_all2) (rd := rd_behind_all2 cs) Fn sc_behind_all2 rfn_behind_all2 fun cdv A outer s H G E hr => ?_
  have nd := sc_behind_all2.nd
  have hK : (cxOf (L2.CX P w) P w K mg base NE_behind_all2 "behind_all" (defScope s_behind_all2) (He.ga K "behind_all") cdv A outer s H E).K = (fxOf C G H E).K := hCK
  have tk : Takes (cxOf (L2.CX P w) P w K mg base NE_behind_all2 "behind_all" (defScope s_behind_all2) (He.ga K "behind_all") cdv A outer s H E) (fxOf C G H E).wish := takes_of rfl rfl rfl rfl
  exact (dss_cons (ds_for (passes_of rfl) rfl (di_seq hK (de_var 0 (pv 0))) (dg_name 2 (pg_name (i := 2) nd rfl (.inl rfl))) (dss_one (ds_if (dt_cmp op_notN od_notN (de_var 1 (pv 1)) de_non (by rfl)) (dss_one (ds_asg (de_call G_behind2 tk (hr.mono (by decide)) rfl T.glo_behind F_behind2.kp B_behind2 .nil DfR.nil (da_cons (de_var 2 (pv 2)) (da_cons (de_var 1 (pv 1)) da_nil))) (dg_name 1 (pg_name (i := 1) nd rfl (.inl rfl))))) dss_nil)))
    (dss_one (ds_ret (de_var 1 (pv 1)))))
theorem dd_Script___call__ {P : Program} {w : World} {K : PySem.W.Frag} {mg : Str → Option Value} {base : Heap} {S : Type} {C : Cc S} (hCK : K = C.K) (hcad : C.cad = He.ga K) (T : Txt K mg) {fd : FuncData} (Fn : Fun K "__call__" "Script.__call__" s_Script___call__ (He.ma K (He.ga K "Script") "__call__") fd)
  {fd_is_number : FuncData} (F_is_number : Fun K "is_number" "is_number" s_is_number (He.ga K "is_number") fd_is_number) (B_is_number : Binds K fd_is_number ["thing"] [])
  (G_is_number : FnOk P w K mg base (L2.CX P w) 1 (He.ga K "is_number") fd_is_number ["thing"] (spD C 1 (sem_is_number cs)))
  {fd_behind_all2 : FuncData} (F_behind_all2 : Fun K "behind_all" "behind_all" s_behind_all2 (He.ga K "behind_all") fd_behind_all2) (B_behind_all2 : Binds K fd_behind_all2 ["steps", "day"] [])
  (G_behind_all2 : FnOk P w K mg base (L2.CX P w) 7 (He.ga K "behind_all") fd_behind_all2 ["steps", "day"] (spD C 2 (sem_behind_all2 cs))) :
  FnOk P w K mg base (L2.CX P w) 8 (He.ma K (He.ga K "Script") "__call__") fd ["self", "day"] (spD C 2 (sem_Script___call__ cs)) := by
  refine fn_body (N := NE_Script___call__) (rd := rd_Script___call__ cs) Fn sc_Script___call__ rfn_Script___call__ fun cdv A outer s H G E hr => ?_
  have nd := sc_Script___call__.nd
  have hK : (cxOf (L2.CX P w) P w K mg base NE_Script___call__ "Script.__call__" (defScope s_Script___call__) (He.ma K (He.ga K "Script") "__call__") cdv A outer s H E).K = (fxOf C G H E).K := hCK
  have tk : Takes (cxOf (L2.CX P w) P w K mg base NE_Script___call__ "Script.__call__" (defScope s_Script___call__) (He.ma K (He.ga K "Script") "__call__") cdv A outer s H E) (fxOf C G H E).wish := takes_of rfl rfl rfl rfl
  exact (dss_cons (ds_if (PW.pt (dw_or (dt_not (dt_val (de_call G_is_number tk (hr.mono (by decide)) rfl T.glo_is_number F_is_number.kp B_is_number .nil DfR.nil (da_cons (de_var 1 (pv 1)) da_nil)))) (dw_or1 (dt_cmp op_lt od_lt (de_var 1 (pv 1)) de_int (by rfl))))) (dss_one ds_no) dss_nil)
    (dss_one (ds_ret (de_call G_behind_all2 tk (hr.mono (by decide)) rfl T.glo_behind_all F_behind_all2.kp B_behind_all2 .nil DfR.nil (da_cons (de_fldC hK (congrFun hcad "Script") T.cls_Script T.noat_Script_own_steps (de_var 0 (pv 0))) (da_cons (de_var 1 (pv 1)) da_nil))))))
theorem dd__law_fates_of {P : Program} {w : World} {K : PySem.W.Frag} {mg : Str → Option Value} {base : Heap} {S : Type} {C : Cc S} (hCK : K = C.K) (hcad : C.cad = He.ga K) (T : Txt K mg) {fd : FuncData} (Fn : Fun K "_law_fates_of" "_law_fates_of" s__law_fates_of (He.ga K "_law_fates_of") fd)
  {fd_Script___call__ : FuncData} (F_Script___call__ : Fun K "__call__" "Script.__call__" s_Script___call__ (He.ma K (He.ga K "Script") "__call__") fd_Script___call__) (B_Script___call__ : Binds K fd_Script___call__ ["self", "day"] [])
  (G_Script___call__ : FnOk P w K mg base (L2.CX P w) 8 (He.ma K (He.ga K "Script") "__call__") fd_Script___call__ ["self", "day"] (spD C 2 (sem_Script___call__ cs))) :
  FnOk P w K mg base (L2.CX P w) 9 (He.ga K "_law_fates_of") fd ["_law_made_here"] (spD C 1 (sem__law_fates_of cs)) := by
  refine fn_body (N := NE__law_fates_of) (rd := rd__law_fates_of cs) Fn sc__law_fates_of rfn__law_fates_of fun cdv A outer s H G E hr => ?_
  have nd := sc__law_fates_of.nd
  have hK : (cxOf (L2.CX P w) P w K mg base NE__law_fates_of "_law_fates_of" (defScope s__law_fates_of) (He.ga K "_law_fates_of") cdv A outer s H E).K = (fxOf C G H E).K := hCK
  have tk : Takes (cxOf (L2.CX P w) P w K mg base NE__law_fates_of "_law_fates_of" (defScope s__law_fates_of) (He.ga K "_law_fates_of") cdv A outer s H E) (fxOf C G H E).wish := takes_of rfl rfl rfl rfl
  exact (dss_one (ds_ret (de_lc (own := [("_law_date", 1)]) (g := gName 1) rfl nd (di_range1 rfl T.free_range (da_cons de_int da_nil)) (blkOk_by (N := NE__law_fates_of) (sc := defScope s__law_fates_of) (by decide +kernel)) (gw_name (by decide)) (fun _ _ _ _ _ => pg_name (i := 1) nd rfl (Or.inl rfl)) (fun _ _ _ _ _ => dts_nil) (fun _ _ _ _ _ => (de_callO (congrFun hcad "Script") (de_var 0 (pv 0)) T.call_Script G_Script___call__ takes0 (hr.mono (by decide)) B_Script___call__ (da_cons (de_var 1 (pv 1)) da_nil))))))
theorem dd_Rhythm___and__ {P : Program} {w : World} {K : PySem.W.Frag} {mg : Str → Option Value} {base : Heap} {S : Type} {C : Cc S} (hCK : K = C.K) (hcad : C.cad = He.ga K) (T : Txt K mg) {fd : FuncData} (Fn : Fun K "__and__" "Rhythm.__and__" s_Rhythm___and__ (He.ma K (He.ga K "Rhythm") "__and__") fd)
  {fd_common : FuncData} (F_common : Fun K "common" "common" s_common (He.ga K "common") fd_common) (B_common : Binds K fd_common ["one", "other"] [])
  (G_common : FnOk P w K mg base (L2.CX P w) 1 (He.ga K "common") fd_common ["one", "other"] (spD C 2 sem_common))
  {fd_Rhythm_size : FuncData} (F_Rhythm_size : Fun K "size" "Rhythm.size" s_Rhythm_size (He5.wf K (He.ga K "Rhythm") "property" "size") fd_Rhythm_size) (B_Rhythm_size : Binds K fd_Rhythm_size ["self"] [])
  (G_Rhythm_size : FnOk P w K mg base (L2.CX P w) 1 (He5.wf K (He.ga K "Rhythm") "property" "size") fd_Rhythm_size ["self"] (spD C 1 sem_Rhythm_size))
  {fd_Rhythm___init__ : FuncData} (F_Rhythm___init__ : Fun K "__init__" "Rhythm.__init__" s_Rhythm___init__ (He.ma K (He.ga K "Rhythm") "__init__") fd_Rhythm___init__) (B_Rhythm___init__ : Binds K fd_Rhythm___init__ ["self", "size", "rests"] [])
  (G_Rhythm___init__ : FnOk P w K mg base (L2.CX P w) 3 (He.ma K (He.ga K "Rhythm") "__init__") fd_Rhythm___init__ ["self", "size", "rests"] (spI C "Rhythm" 2 (sem_Rhythm___init__ cs)))
  {fd_Rhythm___contains__ : FuncData} (F_Rhythm___contains__ : Fun K "__contains__" "Rhythm.__contains__" s_Rhythm___contains__ (He.ma K (He.ga K "Rhythm") "__contains__") fd_Rhythm___contains__) (B_Rhythm___contains__ : Binds K fd_Rhythm___contains__ ["self", "day"] [])
  (G_Rhythm___contains__ : FnOk P w K mg base (L2.CX P w) 2 (He.ma K (He.ga K "Rhythm") "__contains__") fd_Rhythm___contains__ ["self", "day"] (spD C 2 (sem_Rhythm___contains__ cs))) :
  FnOk P w K mg base (L2.CX P w) 5 (He.ma K (He.ga K "Rhythm") "__and__") fd ["self", "other"] (spD C 2 (sem_Rhythm___and__ cs)) := by
  refine fn_body (N := NE_Rhythm___and__) (rd := rd_Rhythm___and__ cs) Fn sc_Rhythm___and__ rfn_Rhythm___and__ fun cdv A outer s H G E hr => ?_
  have nd := sc_Rhythm___and__.nd
  have hK : (cxOf (L2.CX P w) P w K mg base NE_Rhythm___and__ "Rhythm.__and__" (defScope s_Rhythm___and__) (He.ma K (He.ga K "Rhythm") "__and__") cdv A outer s H E).K = (fxOf C G H E).K := hCK
  have tk : Takes (cxOf (L2.CX P w) P w K mg base NE_Rhythm___and__ "Rhythm.__and__" (defScope s_Rhythm___and__) (He.ma K (He.ga K "Rhythm") "__and__") cdv A outer s H E) (fxOf C G H E).wish := takes_of rfl rfl rfl rfl
  exact (dss_cons (ds_if (dt_not (dt_val (de_isi hK (T.kit_own_Rhythm hCK hcad) (.own _) (de_var 1 (pv 1)) (pe_glob rfl T.glo_Rhythm rfl) rfl T.free_isinstance))) (dss_one ds_no) dss_nil)
    (dss_cons (ds_asg (de_call G_common tk (hr.mono (by decide)) rfl T.glo_common F_common.kp B_common .nil DfR.nil (da_cons (de_prop (congrFun hcad "Rhythm") (de_var 0 (pv 0)) T.cls_Rhythm T.prop_Rhythm_size G_Rhythm_size (hr.mono (by decide)) B_Rhythm_size) (da_cons (de_prop (congrFun hcad "Rhythm") (de_var 1 (pv 1)) T.cls_Rhythm T.prop_Rhythm_size G_Rhythm_size (hr.mono (by decide)) B_Rhythm_size) da_nil))) (dg_name 2 (pg_name (i := 2) nd rfl (.inl rfl))))
    (dss_one (ds_ret (de_make (congrFun hcad "Rhythm") T.mk_Rhythm G_Rhythm___init__ tk (hr.mono (by decide)) rfl T.glo_Rhythm B_Rhythm___init__ .nil DfR.nil (da_cons (de_var 2 (pv 2)) (da_cons (de_lc (own := [("day", 3)]) (g := gName 3) rfl nd (di_range1 rfl T.free_range (da_cons (de_var 2 (pv 2)) da_nil)) (blkOk_by (N := NE_Rhythm___and__) (sc := defScope s_Rhythm___and__) (by decide +kernel)) (gw_name (by decide)) (fun _ _ _ _ _ => pg_name (i := 3) nd rfl (Or.inl rfl)) (fun _ _ _ _ _ => (dts_one (PW.pt (dw_and (dt_cmp (OpR_or (or_ownIn G_Rhythm___contains__ (hr.mono (by decide)) B_Rhythm___contains__ (passes_F takes0) T.meth_Rhythm___contains__.at_ T.meth_Rhythm___contains__.fn) op_in_seq) (od_or (od_ownIn false (congrFun hcad "Rhythm")) (od_in false hK)) (de_var 3 (pv 3)) (de_var 0 (pv 0)) (by rfl)) (dw_and1 (dt_cmp (OpR_or (or_ownIn G_Rhythm___contains__ (hr.mono (by decide)) B_Rhythm___contains__ (passes_F takes0) T.meth_Rhythm___contains__.at_ T.meth_Rhythm___contains__.fn) op_in_seq) (od_or (od_ownIn false (congrFun hcad "Rhythm")) (od_in false hK)) (de_var 3 (pv 3)) (de_var 1 (pv 1)) (by rfl))))))) (fun _ _ _ _ _ => (de_var 3 (pv 3)))) da_nil)))))))
theorem dd_Rhythm___eq__ {P : Program} {w : World} {K : PySem.W.Frag} {mg : Str → Option Value} {base : Heap} {S : Type} {C : Cc S} (hCK : K = C.K) (hcad : C.cad = He.ga K) (T : Txt K mg) {fd : FuncData} (Fn : Fun K "__eq__" "Rhythm.__eq__" s_Rhythm___eq__ (He.ma K (He.ga K "Rhythm") "__eq__") fd)
   :
  FnOk P w K mg base (L2.CX P w) 1 (He.ma K (He.ga K "Rhythm") "__eq__") fd ["self", "other"] (spD C 2 (sem_Rhythm___eq__ cs)) := by
  refine fn_body (N := NE_Rhythm___eq__) (rd := rd_Rhythm___eq__ cs) Fn sc_Rhythm___eq__ rfn_Rhythm___eq__ fun cdv A outer s H G E hr => ?_
  have nd := sc_Rhythm___eq__.nd
  have hK : (cxOf (L2.CX P w) P w K mg base NE_Rhythm___eq__ "Rhythm.__eq__" (defScope s_Rhythm___eq__) (He.ma K (He.ga K "Rhythm") "__eq__") cdv A outer s H E).K = (fxOf C G H E).K := hCK
  have tk : Takes (cxOf (L2.CX P w) P w K mg base NE_Rhythm___eq__ "Rhythm.__eq__" (defScope s_Rhythm___eq__) (He.ma K (He.ga K "Rhythm") "__eq__") cdv A outer s H E) (fxOf C G H E).wish := takes_of rfl rfl rfl rfl
  exact (dss_one (ds_ret (de_and hK (de_isi hK (T.kit_own_Rhythm hCK hcad) (.own _) (de_var 1 (pv 1)) (pe_glob rfl T.glo_Rhythm rfl) rfl T.free_isinstance) (de_one (de_cmp (op_eqD hr.units) (od_eq hK) (de_fldC hK (congrFun hcad "Rhythm") T.cls_Rhythm T.noat_Rhythm_own_form (de_var 0 (pv 0))) (de_fldC hK (congrFun hcad "Rhythm") T.cls_Rhythm T.noat_Rhythm_own_form (de_var 1 (pv 1))) (by rfl))))))
theorem dd_Script___eq__ {P : Program} {w : World} {K : PySem.W.Frag} {mg : Str → Option Value} {base : Heap} {S : Type} {C : Cc S} (hCK : K = C.K) (hcad : C.cad = He.ga K) (T : Txt K mg) {fd : FuncData} (Fn : Fun K "__eq__" "Script.__eq__" s_Script___eq__ (He.ma K (He.ga K "Script") "__eq__") fd)
  {fd_Rhythm___eq__ : FuncData} (F_Rhythm___eq__ : Fun K "__eq__" "Rhythm.__eq__" s_Rhythm___eq__ (He.ma K (He.ga K "Rhythm") "__eq__") fd_Rhythm___eq__) (B_Rhythm___eq__ : Binds K fd_Rhythm___eq__ ["self", "other"] [])
  (G_Rhythm___eq__ : FnOk P w K mg base (L2.CX P w) 1 (He.ma K (He.ga K "Rhythm") "__eq__") fd_Rhythm___eq__ ["self", "other"] (spD C 2 (sem_Rhythm___eq__ cs))) :
  FnOk P w K mg base (L2.CX P w) 8 (He.ma K (He.ga K "Script") "__eq__") fd ["self", "other"] (spD C 2 (sem_Script___eq__ cs)) := by
  refine fn_body (N := NE_Script___eq__) (rd := rd_Script___eq__ cs) Fn sc_Script___eq__ rfn_Script___eq__ fun cdv A outer s H G E hr => ?_
  have nd := sc_Script___eq__.nd
  have hK : (cxOf (L2.CX P w) P w K mg base NE_Script___eq__ "Script.__eq__" (defScope s_Script___eq__) (He.ma K (He.ga K "Script") "__eq__") cdv A outer s H E).K = (fxOf C G H E).K := hCK
  have tk : Takes (cxOf (L2.CX P w) P w K mg base NE_Script___eq__ "Script.__eq__" (defScope s_Script___eq__) (He.ma K (He.ga K "Script") "__eq__") cdv A outer s H E) (fxOf C G H E).wish := takes_of rfl rfl rfl rfl
  exact (dss_one (ds_ret (de_and hK (de_isi hK (T.kit_own_Script hCK hcad) (.own _) (de_var 1 (pv 1)) (pe_glob rfl T.glo_Script rfl) rfl T.free_isinstance) (de_one (de_cmp (or_eqG (m := 5) (congrFun hcad "Rhythm") hK tk G_Rhythm___eq__ (hr.mono (by decide)) B_Rhythm___eq__ T.meth_Rhythm___eq__.at_ T.meth_Rhythm___eq__.fn) od_eqG (de_fldC hK (congrFun hcad "Script") T.cls_Script T.noat_Script_own_steps (de_var 0 (pv 0))) (de_fldC hK (congrFun hcad "Script") T.cls_Script T.noat_Script_own_steps (de_var 1 (pv 1))) (by rfl))))))
theorem dd__law_begun {P : Program} {w : World} {K : PySem.W.Frag} {mg : Str → Option Value} {base : Heap} (T : Txt K mg) {fd : FuncData} (Fn : Fun K "_law_begun" "_law_begun" s__law_begun (He.ga K "_law_begun") fd) : FnOk P w K mg base (L2.CX P w) 1 (He.ga K "_law_begun") fd ["_law_script"] (spBegun K) := by
  refine Fn.okX sc__law_begun (fun vs H Q E h => by obtain ⟨a, ns, rfl, _⟩ := h; rfl) fun cdv A outer s H vs Q E hr h => ?_
  obtain ⟨a, ns, rfl, hs, hl, hq⟩ := h
  have nd := sc__law_begun.nd
  have hK : (cxOf (L2.CX P w) P w K mg base N__law_begun "_law_begun" (defScope s__law_begun) (He.ga K "_law_begun") cdv A outer s H E).K = (fxOf (unitCc K (He.ga K) H) (noT H) H E).K := rfl
  refine ⟨tBegun (fxOf (unitCc K (He.ga K) H) (noT H) H E), ?_, begun_of rfl hs hl hq⟩
  exact (pss_cons (ps_setLc (i := 1) (own := [("_law_cell", 2)]) (g := gName 2) rfl nd rfl rfl (sw_true rfl rfl rfl (by decide +kernel)) (di_seq hK (de_var 0 (pv 0))) (blkOk_by (N := N__law_begun) (sc := defScope s__law_begun) (by decide +kernel)) (fun _ _ _ _ _ => pg_name (i := 2) nd rfl (Or.inl rfl)) (fun _ _ _ _ _ => (dts_one (dt_cmp op_ge od_ge (de_callB call_abs cd_abs rfl T.free_abs (by decide +kernel) (da_cons (de_var 2 (pv 2)) da_nil)) (de_op op_pow od_pow de_int de_int) (by rfl)))) (fun _ _ _ _ _ => (de_op op_sub od_sub (de_callB call_abs cd_abs rfl T.free_abs (by decide +kernel) (da_cons (de_var 2 (pv 2)) da_nil)) (de_op op_pow od_pow de_int de_int))))
    (pss_one (ps_ret (pe_disp (pps_cons de_str (pv 1) (pps_cons de_str de_int (pps_cons de_str (pe_lc (own := [("_law_cell", 2)]) (g := gName 2) rfl nd (di_seq hK (de_var 0 (pv 0))) (blkOk_by (N := N__law_begun) (sc := defScope s__law_begun) (by decide +kernel)) (fun _ _ _ _ _ => pg_name (i := 2) nd rfl (Or.inl rfl)) (fun _ _ _ _ _ => dts_nil) (fun _ _ _ _ _ => (de_callB call_abs cd_abs rfl T.free_abs (by decide +kernel) (da_cons (de_var 2 (pv 2)) da_nil)))) (pps_cons de_str de_int pps_nil)))) rfl rfl (by intro z; cases z) (by decide)))))
theorem dd_law {P : Program} {w : World} {K : PySem.W.Frag} {mg : Str → Option Value} {base : Heap} (T : Txt K mg) {fd : FuncData} (Fn : Fun K "law" "law" s_law (He.ga K "law") fd)
  {fd__law_mixed : FuncData} (F__law_mixed : Fun K "_law_mixed" "_law_mixed" s__law_mixed (He.ga K "_law_mixed") fd__law_mixed) (B__law_mixed : Binds K fd__law_mixed ["_law_draw"] [])
  {fd__law_take : FuncData} (F__law_take : Fun K "_law_take" "_law_take" s__law_take (He.ga K "_law_take") fd__law_take) (B__law_take : Binds K fd__law_take ["_law_draw", "_law_many"] [])
  {fd__law_pick : FuncData} (F__law_pick : Fun K "_law_pick" "_law_pick" s__law_pick (He.ga K "_law_pick") fd__law_pick) (B__law_pick : Binds K fd__law_pick ["_law_draw", "_law_some"] [])
  {fd__law_day : FuncData} (F__law_day : Fun K "_law_day" "_law_day" s__law_day (He.ga K "_law_day") fd__law_day) (B__law_day : Binds K fd__law_day ["_law_draw", "_law_wide"] [])
  {fd__law_rhythm : FuncData} (F__law_rhythm : Fun K "_law_rhythm" "_law_rhythm" s__law_rhythm (He.ga K "_law_rhythm") fd__law_rhythm) (B__law_rhythm : Binds K fd__law_rhythm ["_law_draw", "_law_base"] [])
  {fd__law_plain_step : FuncData} (F__law_plain_step : Fun K "_law_plain_step" "_law_plain_step" s__law_plain_step (He.ga K "_law_plain_step") fd__law_plain_step) (B__law_plain_step : Binds K fd__law_plain_step ["_law_draw", "_law_base", "_law_wide"] [])
  {fd__law_steps : FuncData} (F__law_steps : Fun K "_law_steps" "_law_steps" s__law_steps (He.ga K "_law_steps") fd__law_steps) (B__law_steps : Binds K fd__law_steps ["_law_draw", "_law_most", "_law_wide", "_law_has_new"] [])
  {fd__law_flat : FuncData} (F__law_flat : Fun K "_law_flat" "_law_flat" s__law_flat (He.ga K "_law_flat") fd__law_flat) (B__law_flat : Binds K fd__law_flat ["_law_steps_here"] [])
  {fd_is_list : FuncData} (F_is_list : Fun K "is_list" "is_list" s_is_list (He.ga K "is_list") fd_is_list) (B_is_list : Binds K fd_is_list ["thing"] [])
  {fd_is_number : FuncData} (F_is_number : Fun K "is_number" "is_number" s_is_number (He.ga K "is_number") fd_is_number) (B_is_number : Binds K fd_is_number ["thing"] [])
  {fd_is_step_number : FuncData} (F_is_step_number : Fun K "is_step_number" "is_step_number" s_is_step_number (He.ga K "is_step_number") fd_is_step_number) (B_is_step_number : Binds K fd_is_step_number ["thing"] [])
  {fd_is_plain_step : FuncData} (F_is_plain_step : Fun K "is_plain_step" "is_plain_step" s_is_plain_step (He.ga K "is_plain_step") fd_is_plain_step) (B_is_plain_step : Binds K fd_is_plain_step ["thing"] [])
  {fd_is_add : FuncData} (F_is_add : Fun K "is_add" "is_add" s_is_add (He.ga K "is_add") fd_is_add) (B_is_add : Binds K fd_is_add ["thing"] [])
  {fd_is_since : FuncData} (F_is_since : Fun K "is_since" "is_since" s_is_since (He.ga K "is_since") fd_is_since) (B_is_since : Binds K fd_is_since ["thing"] [])
  {fd_is_step : FuncData} (F_is_step : Fun K "is_step" "is_step" s_is_step (He.ga K "is_step") fd_is_step) (B_is_step : Binds K fd_is_step ["thing"] [])
  {fd_flat : FuncData} (F_flat : Fun K "flat" "flat" s_flat (He.ga K "flat") fd_flat) (B_flat : Binds K fd_flat ["steps"] [])
  {fd_common : FuncData} (F_common : Fun K "common" "common" s_common (He.ga K "common") fd_common) (B_common : Binds K fd_common ["one", "other"] [])
  {fd_Rhythm_size : FuncData} (F_Rhythm_size : Fun K "size" "Rhythm.size" s_Rhythm_size (He5.wf K (He.ga K "Rhythm") "property" "size") fd_Rhythm_size) (B_Rhythm_size : Binds K fd_Rhythm_size ["self"] [])
  {fd_common_round : FuncData} (F_common_round : Fun K "common_round" "common_round" s_common_round (He.ga K "common_round") fd_common_round) (B_common_round : Binds K fd_common_round ["rhythms"] [])
  {fd_round_of : FuncData} (F_round_of : Fun K "round_of" "round_of" s_round_of (He.ga K "round_of") fd_round_of) (B_round_of : Binds K fd_round_of ["steps"] [])
  {fd_need_few : FuncData} (F_need_few : Fun K "need_few" "need_few" s_need_few (He.ga K "need_few") fd_need_few) (B_need_few : Binds K fd_need_few ["steps"] [])
  {fd_Script___init__ : FuncData} (F_Script___init__ : FunD K "__init__" "Script.__init__" (defArgs s_Script___init__) (defBody s_Script___init__) (defScope s_Script___init__) [.ref (dflA (fun K => (He.ma K (He.ga K "Script") "__init__")) 0 K)] [] (He.ma K (He.ga K "Script") "__init__") fd_Script___init__) (B_Script___init__ : Binds K fd_Script___init__ ["self", "steps"] [])
  {fd_are_different : FuncData} (F_are_different : Fun K "are_different" "are_different" s_are_different (He.ga K "are_different") fd_are_different) (B_are_different : Binds K fd_are_different ["thing", "least", "most"] [])
  {fd_repeats : FuncData} (F_repeats : Fun K "repeats" "repeats" s_repeats (He.ga K "repeats") fd_repeats) (B_repeats : Binds K fd_repeats ["size", "rests", "part"] [])
  {fd_least_form : FuncData} (F_least_form : Fun K "least_form" "least_form" s_least_form (He.ga K "least_form") fd_least_form) (B_least_form : Binds K fd_least_form ["size", "rests"] [])
  {fd_Rhythm___init__ : FuncData} (F_Rhythm___init__ : Fun K "__init__" "Rhythm.__init__" s_Rhythm___init__ (He.ma K (He.ga K "Rhythm") "__init__") fd_Rhythm___init__) (B_Rhythm___init__ : Binds K fd_Rhythm___init__ ["self", "size", "rests"] [])
  {fd__law_real0 : FuncData} (F__law_real0 : Fun K "_law_real" "_law_real" s__law_real0 (He.ga K "_law_real") fd__law_real0) (B__law_real0 : Binds K fd__law_real0 ["_law_step"] [])
  {fd__law_real1 : FuncData} (F__law_real1 : Fun K "_law_real" "_law_real" s__law_real1 (He.ga K "_law_real") fd__law_real1) (B__law_real1 : Binds K fd__law_real1 ["_law_step"] [])
  {fd__law_real2 : FuncData} (F__law_real2 : Fun K "_law_real" "_law_real" s__law_real2 (He.ga K "_law_real") fd__law_real2) (B__law_real2 : Binds K fd__law_real2 ["_law_step"] [])
  {fd__law_made : FuncData} (F__law_made : Fun K "_law_made" "_law_made" s__law_made (He.ga K "_law_made") fd__law_made) (B__law_made : Binds K fd__law_made ["_law_steps_here"] [])
  {fd_Script___add__ : FuncData} (F_Script___add__ : Fun K "__add__" "Script.__add__" s_Script___add__ (He.ma K (He.ga K "Script") "__add__") fd_Script___add__) (B_Script___add__ : Binds K fd_Script___add__ ["self", "other"] [])
  {fd_behind_all0 : FuncData} (F_behind_all0 : Fun K "behind_all" "behind_all" s_behind_all0 (He.ga K "behind_all") fd_behind_all0) (B_behind_all0 : Binds K fd_behind_all0 ["steps", "day"] [])
  {fd_Rhythm___contains__ : FuncData} (F_Rhythm___contains__ : Fun K "__contains__" "Rhythm.__contains__" s_Rhythm___contains__ (He.ma K (He.ga K "Rhythm") "__contains__") fd_Rhythm___contains__) (B_Rhythm___contains__ : Binds K fd_Rhythm___contains__ ["self", "day"] [])
  {fd_holds : FuncData} (F_holds : Fun K "holds" "holds" s_holds (He.ga K "holds") fd_holds) (B_holds : Binds K fd_holds ["step", "day"] [])
  {fd_behind1 : FuncData} (F_behind1 : Fun K "behind" "behind" s_behind1 (He.ga K "behind") fd_behind1) (B_behind1 : Binds K fd_behind1 ["step", "day"] [])
  {fd_behind_all1 : FuncData} (F_behind_all1 : Fun K "behind_all" "behind_all" s_behind_all1 (He.ga K "behind_all") fd_behind_all1) (B_behind_all1 : Binds K fd_behind_all1 ["steps", "day"] [])
  {fd_behind2 : FuncData} (F_behind2 : Fun K "behind" "behind" s_behind2 (He.ga K "behind") fd_behind2) (B_behind2 : Binds K fd_behind2 ["step", "day"] [])
  {fd_behind_all2 : FuncData} (F_behind_all2 : Fun K "behind_all" "behind_all" s_behind_all2 (He.ga K "behind_all") fd_behind_all2) (B_behind_all2 : Binds K fd_behind_all2 ["steps", "day"] [])
  {fd_Script___call__ : FuncData} (F_Script___call__ : Fun K "__call__" "Script.__call__" s_Script___call__ (He.ma K (He.ga K "Script") "__call__") fd_Script___call__) (B_Script___call__ : Binds K fd_Script___call__ ["self", "day"] [])
  {fd__law_fates_of : FuncData} (F__law_fates_of : Fun K "_law_fates_of" "_law_fates_of" s__law_fates_of (He.ga K "_law_fates_of") fd__law_fates_of) (B__law_fates_of : Binds K fd__law_fates_of ["_law_made_here"] [])
  {fd_Rhythm___and__ : FuncData} (F_Rhythm___and__ : Fun K "__and__" "Rhythm.__and__" s_Rhythm___and__ (He.ma K (He.ga K "Rhythm") "__and__") fd_Rhythm___and__) (B_Rhythm___and__ : Binds K fd_Rhythm___and__ ["self", "other"] [])
  {fd_Rhythm___eq__ : FuncData} (F_Rhythm___eq__ : Fun K "__eq__" "Rhythm.__eq__" s_Rhythm___eq__ (He.ma K (He.ga K "Rhythm") "__eq__") fd_Rhythm___eq__) (B_Rhythm___eq__ : Binds K fd_Rhythm___eq__ ["self", "other"] [])
  {fd_Script___eq__ : FuncData} (F_Script___eq__ : Fun K "__eq__" "Script.__eq__" s_Script___eq__ (He.ma K (He.ga K "Script") "__eq__") fd_Script___eq__) (B_Script___eq__ : Binds K fd_Script___eq__ ["self", "other"] [])
  {fd__law_begun : FuncData} (F__law_begun : Fun K "_law_begun" "_law_begun" s__law_begun (He.ga K "_law_begun") fd__law_begun) (B__law_begun : Binds K fd__law_begun ["_law_script"] []) :
  FnOk P w K mg base (L2.CX P w) 10 (He.ga K "law") fd ["_law_script"] (spLaw K) := by
  refine Fn.okX sc_law (fun vs H Q E h => by obtain ⟨a, ns, rfl, _⟩ := h; rfl) fun cdv A outer s H vs Q E hr h => ?_
  obtain ⟨a, ns, rfl, hs, hl, hq⟩ := h
  have nd := sc_law.nd
  have G__law_begun := dd__law_begun (P := P) (w := w) (base := base) T F__law_begun
  have tk0 : Takes (cxOf (L2.CX P w) P w K mg base N_law "law" (defScope s_law) (He.ga K "law") cdv A outer s H E) (fxOf (unitCc K (He.ga K) H) (noT H) H E).wish := takes_of rfl rfl rfl rfl
  have hrest : ∀ (H1 : Hp) (dp wl cl : Addr) (cells : List Int), (dp ≠ wl ∧ dp ≠ cl ∧ wl ≠ cl) → PSs (cxOf (L2.CX P w) P w K mg base N_law "law" (defScope s_law) (He.ga K "law") cdv A outer s H E) ((defBody s_law).drop 1) (tS (fxOf (drawCcL ({} : LamI) K (He.ga K) dp wl cl cells ([] : List (Addr × Str))) (noT H) H1 E) (rd_law cs cells)) := by
    intro H1 dp wl cl cells hd
    have hCK : K = (drawCcL ({} : LamI) K (He.ga K) dp wl cl cells ([] : List (Addr × Str))).K := rfl
    have hcad : (drawCcL ({} : LamI) K (He.ga K) dp wl cl cells ([] : List (Addr × Str))).cad = He.ga K := rfl
    have hK : (cxOf (L2.CX P w) P w K mg base N_law "law" (defScope s_law) (He.ga K "law") cdv A outer s H E).K = (fxOf (drawCcL ({} : LamI) K (He.ga K) dp wl cl cells ([] : List (Addr × Str))) (noT H) H1 E).K := hCK
    have tk : Takes (cxOf (L2.CX P w) P w K mg base N_law "law" (defScope s_law) (He.ga K "law") cdv A outer s H E) (fxOf (drawCcL ({} : LamI) K (He.ga K) dp wl cl cells ([] : List (Addr × Str))) (noT H) H1 E).wish := takes_of rfl rfl rfl rfl
    have R := drF_ofT (L := ({} : LamI)) (T := ([] : List (Addr × Str))) (G := noT H) (H := H1) (E := E) (K := K) (cad := He.ga K) (cells := cells) hd
    have G__law_mixed := dd__law_mixed (P := P) (w := w) (base := base) (Lm := ({} : LamI)) (cells := cells) (Tl := ([] : List (Addr × Str))) hd T F__law_mixed
    have G__law_take := dd__law_take (P := P) (w := w) (base := base) (Lm := ({} : LamI)) (cells := cells) (Tl := ([] : List (Addr × Str))) hd T F__law_take F__law_mixed B__law_mixed G__law_mixed
    have G__law_pick := dd__law_pick (P := P) (w := w) (base := base) (Lm := ({} : LamI)) (cells := cells) (Tl := ([] : List (Addr × Str))) hd T F__law_pick F__law_take B__law_take G__law_take
    have G__law_day := dd__law_day (P := P) (w := w) (base := base) (Lm := ({} : LamI)) (cells := cells) (Tl := ([] : List (Addr × Str))) hd T F__law_day F__law_take B__law_take G__law_take F__law_pick B__law_pick G__law_pick
    have G__law_rhythm := dd__law_rhythm (P := P) (w := w) (base := base) (Lm := ({} : LamI)) (cells := cells) (Tl := ([] : List (Addr × Str))) hd T F__law_rhythm F__law_pick B__law_pick G__law_pick F__law_take B__law_take G__law_take
    have G__law_plain_step := dd__law_plain_step (P := P) (w := w) (base := base) (Lm := ({} : LamI)) (cells := cells) (Tl := ([] : List (Addr × Str))) hd T F__law_plain_step F__law_pick B__law_pick G__law_pick F__law_take B__law_take G__law_take F__law_rhythm B__law_rhythm G__law_rhythm F__law_day B__law_day G__law_day
    have G__law_steps := dd__law_steps (P := P) (w := w) (base := base) (Lm := ({} : LamI)) (cells := cells) (Tl := ([] : List (Addr × Str))) hd T F__law_steps F__law_pick B__law_pick G__law_pick F__law_take B__law_take G__law_take F__law_day B__law_day G__law_day F__law_rhythm B__law_rhythm G__law_rhythm F__law_plain_step B__law_plain_step G__law_plain_step
    have G__law_flat := dd__law_flat (P := P) (w := w) (base := base) (C := drawCcL ({} : LamI) K (He.ga K) dp wl cl cells ([] : List (Addr × Str))) rfl rfl T F__law_flat
    have G_is_list := dd_is_list (P := P) (w := w) (base := base) (C := drawCcL ({} : LamI) K (He.ga K) dp wl cl cells ([] : List (Addr × Str))) rfl rfl T F_is_list
    have G_is_number := dd_is_number (P := P) (w := w) (base := base) (C := drawCcL ({} : LamI) K (He.ga K) dp wl cl cells ([] : List (Addr × Str))) rfl rfl T F_is_number
    have G_is_step_number := dd_is_step_number (P := P) (w := w) (base := base) (C := drawCcL ({} : LamI) K (He.ga K) dp wl cl cells ([] : List (Addr × Str))) rfl rfl T F_is_step_number F_is_number B_is_number G_is_number
    have G_is_plain_step := dd_is_plain_step (P := P) (w := w) (base := base) (C := drawCcL ({} : LamI) K (He.ga K) dp wl cl cells ([] : List (Addr × Str))) rfl rfl T F_is_plain_step F_is_step_number B_is_step_number G_is_step_number
    have G_is_add := dd_is_add (P := P) (w := w) (base := base) (C := drawCcL ({} : LamI) K (He.ga K) dp wl cl cells ([] : List (Addr × Str))) rfl rfl T F_is_add F_is_step_number B_is_step_number G_is_step_number
    have G_is_since := dd_is_since (P := P) (w := w) (base := base) (C := drawCcL ({} : LamI) K (He.ga K) dp wl cl cells ([] : List (Addr × Str))) rfl rfl T F_is_since F_is_step_number B_is_step_number G_is_step_number F_is_plain_step B_is_plain_step G_is_plain_step
    have G_is_step := dd_is_step (P := P) (w := w) (base := base) (C := drawCcL ({} : LamI) K (He.ga K) dp wl cl cells ([] : List (Addr × Str))) rfl rfl T F_is_step F_is_plain_step B_is_plain_step G_is_plain_step F_is_add B_is_add G_is_add F_is_since B_is_since G_is_since
    have G_flat := dd_flat (P := P) (w := w) (base := base) (C := drawCcL ({} : LamI) K (He.ga K) dp wl cl cells ([] : List (Addr × Str))) rfl rfl T F_flat
    have G_common := dd_common (P := P) (w := w) (base := base) (C := drawCcL ({} : LamI) K (He.ga K) dp wl cl cells ([] : List (Addr × Str))) rfl rfl T F_common
    have G_Rhythm_size := dd_Rhythm_size (P := P) (w := w) (base := base) (C := drawCcL ({} : LamI) K (He.ga K) dp wl cl cells ([] : List (Addr × Str))) rfl rfl T F_Rhythm_size
    have G_common_round := dd_common_round (P := P) (w := w) (base := base) (C := drawCcL ({} : LamI) K (He.ga K) dp wl cl cells ([] : List (Addr × Str))) rfl rfl T F_common_round F_common B_common G_common F_Rhythm_size B_Rhythm_size G_Rhythm_size
    have G_round_of := dd_round_of (P := P) (w := w) (base := base) (C := drawCcL ({} : LamI) K (He.ga K) dp wl cl cells ([] : List (Addr × Str))) rfl rfl T F_round_of F_common_round B_common_round G_common_round F_flat B_flat G_flat
    have G_need_few := dd_need_few (P := P) (w := w) (base := base) (C := drawCcL ({} : LamI) K (He.ga K) dp wl cl cells ([] : List (Addr × Str))) rfl rfl T F_need_few F_flat B_flat G_flat F_round_of B_round_of G_round_of
    have G_Script___init__ := dd_Script___init__ (P := P) (w := w) (base := base) (C := drawCcL ({} : LamI) K (He.ga K) dp wl cl cells ([] : List (Addr × Str))) rfl rfl T F_Script___init__ F_is_list B_is_list G_is_list F_is_step B_is_step G_is_step F_need_few B_need_few G_need_few
    have G_are_different := dd_are_different (P := P) (w := w) (base := base) (C := drawCcL ({} : LamI) K (He.ga K) dp wl cl cells ([] : List (Addr × Str))) rfl rfl T F_are_different F_is_list B_is_list G_is_list F_is_number B_is_number G_is_number
    have G_repeats := dd_repeats (P := P) (w := w) (base := base) (C := drawCcL ({} : LamI) K (He.ga K) dp wl cl cells ([] : List (Addr × Str))) rfl rfl T F_repeats
    have G_least_form := dd_least_form (P := P) (w := w) (base := base) (C := drawCcL ({} : LamI) K (He.ga K) dp wl cl cells ([] : List (Addr × Str))) rfl rfl T F_least_form F_repeats B_repeats G_repeats
    have G_Rhythm___init__ := dd_Rhythm___init__ (P := P) (w := w) (base := base) (C := drawCcL ({} : LamI) K (He.ga K) dp wl cl cells ([] : List (Addr × Str))) rfl rfl T F_Rhythm___init__ F_is_number B_is_number G_is_number F_are_different B_are_different G_are_different F_least_form B_least_form G_least_form
    have G__law_real0 := dd__law_real0 (P := P) (w := w) (base := base) (C := drawCcL ({} : LamI) K (He.ga K) dp wl cl cells ([] : List (Addr × Str))) rfl rfl T F__law_real0
    have G__law_real1 := dd__law_real1 (P := P) (w := w) (base := base) (C := drawCcL ({} : LamI) K (He.ga K) dp wl cl cells ([] : List (Addr × Str))) rfl rfl T F__law_real1 F_Rhythm___init__ B_Rhythm___init__ G_Rhythm___init__ F__law_real0 B__law_real0 G__law_real0
    have G__law_real2 := dd__law_real2 (P := P) (w := w) (base := base) (C := drawCcL ({} : LamI) K (He.ga K) dp wl cl cells ([] : List (Addr × Str))) rfl rfl T F__law_real2 F_Rhythm___init__ B_Rhythm___init__ G_Rhythm___init__ F__law_real1 B__law_real1 G__law_real1
    have G__law_made := dd__law_made (P := P) (w := w) (base := base) (C := drawCcL ({} : LamI) K (He.ga K) dp wl cl cells ([] : List (Addr × Str))) rfl rfl T F__law_made F_Script___init__ B_Script___init__ G_Script___init__ F__law_real2 B__law_real2 G__law_real2
    have G_Script___add__ := dd_Script___add__ (P := P) (w := w) (base := base) (C := drawCcL ({} : LamI) K (He.ga K) dp wl cl cells ([] : List (Addr × Str))) rfl rfl T F_Script___add__ F_Script___init__ B_Script___init__ G_Script___init__
    have G_behind_all0 := dd_behind_all0 (P := P) (w := w) (base := base) (C := drawCcL ({} : LamI) K (He.ga K) dp wl cl cells ([] : List (Addr × Str))) rfl rfl T F_behind_all0
    have G_Rhythm___contains__ := dd_Rhythm___contains__ (P := P) (w := w) (base := base) (C := drawCcL ({} : LamI) K (He.ga K) dp wl cl cells ([] : List (Addr × Str))) rfl rfl T F_Rhythm___contains__ F_is_number B_is_number G_is_number
    have G_holds := dd_holds (P := P) (w := w) (base := base) (C := drawCcL ({} : LamI) K (He.ga K) dp wl cl cells ([] : List (Addr × Str))) rfl rfl T F_holds F_Rhythm___contains__ B_Rhythm___contains__ G_Rhythm___contains__
    have G_behind1 := dd_behind1 (P := P) (w := w) (base := base) (C := drawCcL ({} : LamI) K (He.ga K) dp wl cl cells ([] : List (Addr × Str))) rfl rfl T F_behind1 F_behind_all0 B_behind_all0 G_behind_all0 F_holds B_holds G_holds
    have G_behind_all1 := dd_behind_all1 (P := P) (w := w) (base := base) (C := drawCcL ({} : LamI) K (He.ga K) dp wl cl cells ([] : List (Addr × Str))) rfl rfl T F_behind_all1 F_behind1 B_behind1 G_behind1
    have G_behind2 := dd_behind2 (P := P) (w := w) (base := base) (C := drawCcL ({} : LamI) K (He.ga K) dp wl cl cells ([] : List (Addr × Str))) rfl rfl T F_behind2 F_behind_all1 B_behind_all1 G_behind_all1 F_holds B_holds G_holds
    have G_behind_all2 := dd_behind_all2 (P := P) (w := w) (base := base) (C := drawCcL ({} : LamI) K (He.ga K) dp wl cl cells ([] : List (Addr × Str))) rfl rfl T F_behind_all2 F_behind2 B_behind2 G_behind2
    have G_Script___call__ := dd_Script___call__ (P := P) (w := w) (base := base) (C := drawCcL ({} : LamI) K (He.ga K) dp wl cl cells ([] : List (Addr × Str))) rfl rfl T F_Script___call__ F_is_number B_is_number G_is_number F_behind_all2 B_behind_all2 G_behind_all2
    have G__law_fates_of := dd__law_fates_of (P := P) (w := w) (base := base) (C := drawCcL ({} : LamI) K (He.ga K) dp wl cl cells ([] : List (Addr × Str))) rfl rfl T F__law_fates_of F_Script___call__ B_Script___call__ G_Script___call__
    have G_Rhythm___and__ := dd_Rhythm___and__ (P := P) (w := w) (base := base) (C := drawCcL ({} : LamI) K (He.ga K) dp wl cl cells ([] : List (Addr × Str))) rfl rfl T F_Rhythm___and__ F_common B_common G_common F_Rhythm_size B_Rhythm_size G_Rhythm_size F_Rhythm___init__ B_Rhythm___init__ G_Rhythm___init__ F_Rhythm___contains__ B_Rhythm___contains__ G_Rhythm___contains__
    have G_Rhythm___eq__ := dd_Rhythm___eq__ (P := P) (w := w) (base := base) (C := drawCcL ({} : LamI) K (He.ga K) dp wl cl cells ([] : List (Addr × Str))) rfl rfl T F_Rhythm___eq__
    have G_Script___eq__ := dd_Script___eq__ (P := P) (w := w) (base := base) (C := drawCcL ({} : LamI) K (He.ga K) dp wl cl cells ([] : List (Addr × Str))) rfl rfl T F_Script___eq__ F_Rhythm___eq__ B_Rhythm___eq__ G_Rhythm___eq__
    exact (dss_cons (ds_for (passes_of rfl) rfl (di_range1 rfl T.free_range (da_cons (de_op or_add (od_add hK) de_int (de_callB (call_min2 rfl) cd_min2 rfl T.free_min (by decide +kernel) (da_cons (de_callB call_len (cd_len hK) rfl T.free_len (by decide +kernel) (da_cons (de_var 0 (pv 0)) da_nil)) (da_cons de_int da_nil)))) da_nil)) (dg_name 2 (pg_name (i := 2) nd rfl (.inl rfl))) (dss_cons (ds_own (da_cons (de_call G__law_steps tk (hr.mono (by decide)) rfl T.glo__law_steps F__law_steps.kp B__law_steps .nil DfR.nil (da_cons (de_var 1 (pv 1)) (da_cons de_int (da_cons de_int (da_cons de_bl da_nil))))) (da_cons (de_call G__law_steps tk (hr.mono (by decide)) rfl T.glo__law_steps F__law_steps.kp B__law_steps .nil DfR.nil (da_cons (de_var 1 (pv 1)) (da_cons de_int (da_cons de_int (da_cons de_bl da_nil))))) da_nil)) (pg_name (i := 3) nd rfl (.inl rfl)))
    (dss_cons (ds_if (dt_cmp op_gt od_gt (de_callB call_len (cd_len hK) rfl T.free_len (by decide +kernel) (da_cons (de_call G__law_flat tk (hr.mono (by decide)) rfl T.glo__law_flat F__law_flat.kp B__law_flat .nil DfR.nil (da_cons (de_op or_add (od_add hK) (de_ixO (pv 3) de_int) (de_ixO (pv 3) de_int)) da_nil)) da_nil)) de_int (by rfl)) (dss_one (ds_setI (pv 3) de_int (de_lst da_nil))) dss_nil)
    (dss_cons (ds_par rfl nd rfl rfl (by decide) rfl rfl (da_cons (de_call G__law_made tk (hr.mono (by decide)) rfl T.glo__law_made F__law_made.kp B__law_made .nil DfR.nil (da_cons (de_ixO (pv 3) de_int) da_nil)) (da_cons (de_call G__law_made tk (hr.mono (by decide)) rfl T.glo__law_made F__law_made.kp B__law_made .nil DfR.nil (da_cons (de_ixO (pv 3) de_int) da_nil)) da_nil)) (by rfl))
    (dss_cons (ds_asg (de_op (or_own G_Script___add__ (hr.mono (by decide)) B_Script___add__ (passes_F tk) T.first_Script T.op_Script_Add T.meth_Script___add__.fn) (od_own (congrFun hcad "Script")) (de_var 4 (pv 4)) (de_var 5 (pv 5))) (dg_name 6 (pg_name (i := 6) nd rfl (.inl rfl))))
    (dss_cons (ds_for (passes_of rfl) rfl (di_range1 rfl T.free_range (da_cons de_int da_nil)) (dg_name 7 (pg_name (i := 7) nd rfl (.inl rfl))) (dss_cons (ds_if (PW.pt (dw_and (dt_cmp op_isN od_isN (de_callO (congrFun hcad "Script") (de_var 4 (pv 4)) T.call_Script G_Script___call__ tk (hr.mono (by decide)) B_Script___call__ (da_cons (de_var 7 (pv 7)) da_nil)) de_non (by rfl)) (dw_and1 (dt_cmp op_notN od_notN (de_callO (congrFun hcad "Script") (de_var 6 (pv 6)) T.call_Script G_Script___call__ tk (hr.mono (by decide)) B_Script___call__ (da_cons (de_var 7 (pv 7)) da_nil)) de_non (by rfl))))) (dss_one (ds_ret de_bl)) dss_nil)
    (dss_one (ds_if (PW.pt (dw_and (dt_cmp op_notN od_notN (de_callO (congrFun hcad "Script") (de_var 4 (pv 4)) T.call_Script G_Script___call__ tk (hr.mono (by decide)) B_Script___call__ (da_cons (de_var 7 (pv 7)) da_nil)) de_non (by rfl)) (dw_and (dt_cmp op_ge od_ge (de_callO (congrFun hcad "Script") (de_var 4 (pv 4)) T.call_Script G_Script___call__ tk (hr.mono (by decide)) B_Script___call__ (da_cons (de_var 7 (pv 7)) da_nil)) de_int (by rfl)) (dw_and1 (dt_cmp (op_neD hr.units) (od_ne hK) (de_callO (congrFun hcad "Script") (de_var 6 (pv 6)) T.call_Script G_Script___call__ tk (hr.mono (by decide)) B_Script___call__ (da_cons (de_var 7 (pv 7)) da_nil)) (de_callO (congrFun hcad "Script") (de_var 5 (pv 5)) T.call_Script G_Script___call__ tk (hr.mono (by decide)) B_Script___call__ (da_cons (de_callO (congrFun hcad "Script") (de_var 4 (pv 4)) T.call_Script G_Script___call__ tk (hr.mono (by decide)) B_Script___call__ (da_cons (de_var 7 (pv 7)) da_nil)) da_nil)) (by rfl)))))) (dss_one (ds_ret de_bl)) dss_nil))))
    (dss_cons (ds_setLc (i := 8) (own := [("_law_k", 9)]) (g := gName 9) rfl nd rfl rfl (sw_true rfl rfl rfl (by decide +kernel)) (di_range1 rfl T.free_range (da_cons (de_op or_add (od_add hK) de_int (de_call G__law_take tk (hr.mono (by decide)) rfl T.glo__law_take F__law_take.kp B__law_take .nil DfR.nil (da_cons (de_var 1 (pv 1)) (da_cons de_int da_nil)))) da_nil)) (blkOk_by (N := N_law) (sc := defScope s_law) (by decide +kernel)) (gw_name (by decide)) (fun _ _ _ _ _ => pg_name (i := 9) nd rfl (Or.inl rfl)) (fun _ _ _ _ _ => dts_nil) (fun _ _ _ _ _ => (de_call G__law_plain_step takes0 (hr.mono (by decide)) rfl T.glo__law_plain_step F__law_plain_step.kp B__law_plain_step .nil DfR.nil (da_cons (de_var 1 (pv 1)) (da_cons de_int (da_cons de_int da_nil))))))
    (dss_cons (ds_par rfl nd rfl rfl (by decide) rfl rfl (da_cons (de_call G__law_made tk (hr.mono (by decide)) rfl T.glo__law_made F__law_made.kp B__law_made .nil DfR.nil (da_cons (de_lst (da_cons (de_tup (da_cons de_str (da_cons (de_neg de_int) (da_cons (de_callTy call_tuple_of (cd_tuple hK) rfl T.free_tuple (by decide +kernel) (da_cons (de_var 8 (pv 8)) da_nil)) da_nil)))) da_nil)) da_nil)) (da_cons (de_call G__law_made tk (hr.mono (by decide)) rfl T.glo__law_made F__law_made.kp B__law_made .nil DfR.nil (da_cons (de_var 8 (pv 8)) da_nil)) da_nil)) (by rfl))
    (dss_cons (ds_if (dt_cmp (op_neD hr.units) (od_ne hK) (de_call G__law_fates_of tk (hr.mono (by decide)) rfl T.glo__law_fates_of F__law_fates_of.kp B__law_fates_of .nil DfR.nil (da_cons (de_var 10 (pv 10)) da_nil)) (de_call G__law_fates_of tk (hr.mono (by decide)) rfl T.glo__law_fates_of F__law_fates_of.kp B__law_fates_of .nil DfR.nil (da_cons (de_var 11 (pv 11)) da_nil)) (by rfl)) (dss_one (ds_ret de_bl)) dss_nil)
    (dss_cons (ds_par rfl nd rfl rfl (by decide) rfl rfl (da_cons (de_op op_sub od_sub (de_call G__law_take tk (hr.mono (by decide)) rfl T.glo__law_take F__law_take.kp B__law_take .nil DfR.nil (da_cons (de_var 1 (pv 1)) (da_cons de_int da_nil))) de_int) (da_cons (de_op op_sub od_sub (de_call G__law_take tk (hr.mono (by decide)) rfl T.glo__law_take F__law_take.kp B__law_take .nil DfR.nil (da_cons (de_var 1 (pv 1)) (da_cons de_int da_nil))) de_int) da_nil)) (by rfl))
    (dss_cons (ds_asg (de_make (congrFun hcad "Script") T.mk_Script G_Script___init__ tk (hr.mono (by decide)) rfl T.glo_Script B_Script___init__ .nil DfR.nil (da_cons (de_lst (da_cons (de_tup (da_cons de_str (da_cons (de_op or_add (od_add hK) (de_var 12 (pv 12)) (de_var 13 (pv 13))) da_nil))) da_nil)) da_nil)) (dg_name 14 (pg_name (i := 14) nd rfl (.inl rfl))))
    (dss_cons (ds_if (dt_cmp (op_neD hr.units) (od_ne hK) (de_call G__law_fates_of tk (hr.mono (by decide)) rfl T.glo__law_fates_of F__law_fates_of.kp B__law_fates_of .nil DfR.nil (da_cons (de_make (congrFun hcad "Script") T.mk_Script G_Script___init__ tk (hr.mono (by decide)) rfl T.glo_Script B_Script___init__ .nil DfR.nil (da_cons (de_lst (da_cons (de_tup (da_cons de_str (da_cons (de_var 12 (pv 12)) da_nil))) (da_cons (de_tup (da_cons de_str (da_cons (de_var 13 (pv 13)) da_nil))) da_nil))) da_nil)) da_nil)) (de_call G__law_fates_of tk (hr.mono (by decide)) rfl T.glo__law_fates_of F__law_fates_of.kp B__law_fates_of .nil DfR.nil (da_cons (de_var 14 (pv 14)) da_nil)) (by rfl)) (dss_one (ds_ret de_bl)) dss_nil)
    (dss_cons (ds_if (dt_cmp (op_neD hr.units) (od_ne hK) (de_call G__law_fates_of tk (hr.mono (by decide)) rfl T.glo__law_fates_of F__law_fates_of.kp B__law_fates_of .nil DfR.nil (da_cons (de_op (or_own G_Script___add__ (hr.mono (by decide)) B_Script___add__ (passes_F tk) T.first_Script T.op_Script_Add T.meth_Script___add__.fn) (od_own (congrFun hcad "Script")) (de_var 4 (pv 4)) (de_make (congrFun hcad "Script") T.mk_Script G_Script___init__ tk (hr.mono (by decide)) rfl T.glo_Script B_Script___init__ .nil DfR.nil (da_cons (de_lst (da_cons (de_tup (da_cons de_str (da_cons de_int da_nil))) da_nil)) da_nil))) da_nil)) (de_call G__law_fates_of tk (hr.mono (by decide)) rfl T.glo__law_fates_of F__law_fates_of.kp B__law_fates_of .nil DfR.nil (da_cons (de_var 4 (pv 4)) da_nil)) (by rfl)) (dss_one (ds_ret de_bl)) dss_nil)
    (dss_cons (ds_own (da_cons (de_call G__law_rhythm tk (hr.mono (by decide)) rfl T.glo__law_rhythm F__law_rhythm.kp B__law_rhythm .nil DfR.nil (da_cons (de_var 1 (pv 1)) (da_cons de_int da_nil))) (da_cons (de_call G__law_rhythm tk (hr.mono (by decide)) rfl T.glo__law_rhythm F__law_rhythm.kp B__law_rhythm .nil DfR.nil (da_cons (de_var 1 (pv 1)) (da_cons de_int da_nil))) da_nil)) (pg_name (i := 3) nd rfl (.inl rfl)))
    (dss_cons (ds_setLcx (i := 15) (own := [("_law_model", 16)]) (g := gName 16) rfl nd rfl rfl (sw_true rfl rfl rfl (by decide +kernel)) (di_own hK (pv 3)) (blkOk_by (N := N_law) (sc := defScope s_law) (by decide +kernel)) (gw_name (by decide)) (fun _ _ _ _ _ => pg_name (i := 16) nd rfl (Or.inl rfl)) (fun _ _ _ _ _ => dts_nil) (fun _ _ _ _ _ => (de_make (congrFun hcad "Rhythm") T.mk_Rhythm G_Rhythm___init__ takes0 (hr.mono (by decide)) rfl T.glo_Rhythm B_Rhythm___init__ .nil DfR.nil (da_cons (de_ix ix_seq (od_ix hK) (de_var 16 (pv 16)) de_int (fun _ _ => rfl)) (da_cons (de_callTy call_list_of (cd_list hK) rfl T.free_list (by decide +kernel) (da_cons (de_ix ix_seq (od_ix hK) (de_var 16 (pv 16)) de_int (fun _ _ => rfl)) da_nil)) da_nil)))))
    (dss_cons (ds_par rfl nd rfl rfl (by decide) rfl rfl (da_cons (de_make (congrFun hcad "Script") T.mk_Script G_Script___init__ tk (hr.mono (by decide)) rfl T.glo_Script B_Script___init__ .nil DfR.nil (da_cons (de_lst (da_cons (de_tup (da_cons de_str (da_cons (de_ix ix_seq (od_ix hK) (de_var 15 (pv 15)) de_int (fun _ _ => rfl)) da_nil))) da_nil)) da_nil)) (da_cons (de_make (congrFun hcad "Script") T.mk_Script G_Script___init__ tk (hr.mono (by decide)) rfl T.glo_Script B_Script___init__ .nil DfR.nil (da_cons (de_lst (da_cons (de_tup (da_cons de_str (da_cons (de_ix ix_seq (od_ix hK) (de_var 15 (pv 15)) de_int (fun _ _ => rfl)) da_nil))) da_nil)) da_nil)) da_nil)) (by rfl))
    (dss_cons (ds_for (passes_of rfl) rfl (di_range1 rfl T.free_range (da_cons de_int da_nil)) (dg_name 7 (pg_name (i := 7) nd rfl (.inl rfl))) (dss_one (ds_if (dt_cmp (op_neD hr.units) (od_ne hK) (de_callB cr_sortB (cd_sortB hK) rfl T.free_sorted (by decide +kernel) (da_cons (de_lst (da_cons (de_cmp op_isN od_isN (de_callO (congrFun hcad "Script") (de_var 17 (pv 17)) T.call_Script G_Script___call__ tk (hr.mono (by decide)) B_Script___call__ (da_cons (de_var 7 (pv 7)) da_nil)) de_non (by rfl)) (da_cons (de_cmp op_isN od_isN (de_callO (congrFun hcad "Script") (de_var 18 (pv 18)) T.call_Script G_Script___call__ tk (hr.mono (by decide)) B_Script___call__ (da_cons (de_var 7 (pv 7)) da_nil)) de_non (by rfl)) da_nil))) da_nil)) (de_lst (da_cons de_bl (da_cons de_bl da_nil))) (by rfl)) (dss_one (ds_ret de_bl)) dss_nil)))
    (dss_cons (ds_par rfl nd rfl rfl (by decide) rfl rfl (da_cons (de_make (congrFun hcad "Script") T.mk_Script G_Script___init__ tk (hr.mono (by decide)) rfl T.glo_Script B_Script___init__ .nil DfR.nil (da_cons (de_lst (da_cons (de_tup (da_cons de_str (da_cons (de_ix ix_seq (od_ix hK) (de_var 15 (pv 15)) de_int (fun _ _ => rfl)) da_nil))) (da_cons (de_tup (da_cons de_str (da_cons (de_ix ix_seq (od_ix hK) (de_var 15 (pv 15)) de_int (fun _ _ => rfl)) da_nil))) da_nil))) da_nil)) (da_cons (de_make (congrFun hcad "Script") T.mk_Script G_Script___init__ tk (hr.mono (by decide)) rfl T.glo_Script B_Script___init__ .nil DfR.nil (da_cons (de_lst (da_cons (de_tup (da_cons de_str (da_cons (de_op (or_own G_Rhythm___and__ (hr.mono (by decide)) B_Rhythm___and__ (passes_F tk) T.first_Rhythm T.op_Rhythm_BitAnd T.meth_Rhythm___and__.fn) (od_own (congrFun hcad "Rhythm")) (de_ix ix_seq (od_ix hK) (de_var 15 (pv 15)) de_int (fun _ _ => rfl)) (de_ix ix_seq (od_ix hK) (de_var 15 (pv 15)) de_int (fun _ _ => rfl))) da_nil))) da_nil)) da_nil)) da_nil)) (by rfl))
    (dss_cons (ds_if (dt_cmp (op_neD hr.units) (od_ne hK) (de_call G__law_fates_of tk (hr.mono (by decide)) rfl T.glo__law_fates_of F__law_fates_of.kp B__law_fates_of .nil DfR.nil (da_cons (de_var 19 (pv 19)) da_nil)) (de_call G__law_fates_of tk (hr.mono (by decide)) rfl T.glo__law_fates_of F__law_fates_of.kp B__law_fates_of .nil DfR.nil (da_cons (de_var 20 (pv 20)) da_nil)) (by rfl)) (dss_one (ds_ret de_bl)) dss_nil)
    (dss_one (ds_if (PW.pt (dw_or (dt_cmp (op_neD hr.units) (od_ne hK) (de_call G__law_fates_of tk (hr.mono (by decide)) rfl T.glo__law_fates_of F__law_fates_of.kp B__law_fates_of .nil DfR.nil (da_cons (de_op (or_own G_Script___add__ (hr.mono (by decide)) B_Script___add__ (passes_F tk) T.first_Script T.op_Script_Add T.meth_Script___add__.fn) (od_own (congrFun hcad "Script")) (de_var 17 (pv 17)) (de_var 18 (pv 18))) da_nil)) (de_op op_rep od_rep (de_lst (da_cons de_non da_nil)) de_int) (by rfl)) (dw_or1 (dt_cmp (OpR_or (or_ownNe G_Script___eq__ (hr.mono (by decide)) B_Script___eq__ passL T.meth_Script___eq__.at_ T.meth_Script___eq__.fn T.ne_Script.1 T.ne_Script.2) (op_neD hr.units)) (od_or (od_ownNe (congrFun hcad "Script")) (od_ne hK)) (de_op (or_own G_Script___add__ (hr.mono (by decide)) B_Script___add__ (passes_F tk) T.first_Script T.op_Script_Add T.meth_Script___add__.fn) (od_own (congrFun hcad "Script")) (de_op (or_own G_Script___add__ (hr.mono (by decide)) B_Script___add__ (passes_F tk) T.first_Script T.op_Script_Add T.meth_Script___add__.fn) (od_own (congrFun hcad "Script")) (de_var 4 (pv 4)) (de_var 5 (pv 5))) (de_var 17 (pv 17))) (de_op (or_own G_Script___add__ (hr.mono (by decide)) B_Script___add__ (passes_F tk) T.first_Script T.op_Script_Add T.meth_Script___add__.fn) (od_own (congrFun hcad "Script")) (de_var 4 (pv 4)) (de_op (or_own G_Script___add__ (hr.mono (by decide)) B_Script___add__ (passes_F tk) T.first_Script T.op_Script_Add T.meth_Script___add__.fn) (od_own (congrFun hcad "Script")) (de_var 5 (pv 5)) (de_var 17 (pv 17)))) (by rfl))))) (dss_one (ds_ret de_bl)) dss_nil)))))))))))))))))))))
    (dss_one (ds_ret de_bl)))
  refine ⟨_, pss_cons (ps_asg (pe_call G__law_begun (hr.mono (by decide)) rfl T.glo__law_begun F__law_begun.kp B__law_begun .nil (passes_F tk0) (pa_cons (pv 0) pa_nil)) (pg_name (i := 1) nd rfl (.inr rfl))) (pss_restL (rd := rd_law cs) hrest), law_ofL rfl hs hl (fun _ hp => nomatch hp) hq fun cells st => ?_⟩
  obtain ⟨f, s', e, rfl⟩ := law_yes (cs := cs) (by decide +kernel) cells ns st
  exact ⟨s', e⟩
theorem txt_of {K : PySem.W.Frag} {h : Heap} {mg : Str → Option Value} (X : K.In h) (G : h.Ns mainGlobals mg) (c : SaysB fbs fns K) : Txt K mg := ⟨
  callB_ok (c.fact 0),
  He.cls_ok (c.fact 1),
  He.cls_ok (c.fact 2),
  c.fact 3,
  c.fact 4,
  He.free_ok X G (c.fact 5),
  He.free_ok X G (c.fact 6),
  He.free_ok X G (c.fact 7),
  He.free_ok X G (c.fact 8),
  He.free_ok X G (c.fact 9),
  He.free_ok X G (c.fact 10),
  He.free_ok X G (c.fact 11),
  He.free_ok X G (c.fact 12),
  He.free_ok X G (c.fact 13),
  He.free_ok X G (c.fact 14),
  He.free_ok X G (c.fact 15),
  He.free_ok X G (c.fact 16),
  He.free_ok X G (c.fact 17),
  He.free_ok X G (c.fact 18),
  He.glo_ok X G (c.fact 19),
  He.glo_ok X G (c.fact 20),
  He.glo_ok X G (c.fact 21),
  He.glo_ok X G (c.fact 22),
  He.glo_ok X G (c.fact 23),
  He.glo_ok X G (c.fact 24),
  He.glo_ok X G (c.fact 25),
  He.glo_ok X G (c.fact 26),
  He.glo_ok X G (c.fact 27),
  He.glo_ok X G (c.fact 28),
  He.glo_ok X G (c.fact 29),
  He.glo_ok X G (c.fact 30),
  He.glo_ok X G (c.fact 31),
  He.glo_ok X G (c.fact 32),
  He.glo_ok X G (c.fact 33),
  He.glo_ok X G (c.fact 34),
  He.glo_ok X G (c.fact 35),
  He.glo_ok X G (c.fact 36),
  He.glo_ok X G (c.fact 37),
  He.glo_ok X G (c.fact 38),
  He.glo_ok X G (c.fact 39),
  He.glo_ok X G (c.fact 40),
  He.glo_ok X G (c.fact 41),
  He.glo_ok X G (c.fact 42),
  He.glo_ok X G (c.fact 43),
  He.glo_ok X G (c.fact 44),
  He.glo_ok X G (c.fact 45),
  He.glo_ok X G (c.fact 46),
  He.glo_ok X G (c.fact 47),
  He.glo_ok X G (c.fact 48),
  He.glo_ok X G (c.fact 49),
  He.glo_ok X G (c.fact 50),
  He.int_ok X G (c.fact 51),
  He.int_ok X G (c.fact 52),
  He.int_ok X G (c.fact 53),
  He.int_ok X G (c.fact 54),
  He.meth_ok (c.fact 55),
  He.meth_ok (c.fact 56),
  He.meth_ok (c.fact 57),
  He.meth_ok (c.fact 58),
  He.meth_ok (c.fact 59),
  He.mkr_ok (c.fact 60),
  He.mkr_ok (c.fact 61),
  ⟨He.eqO_ok (He.ba (c.fact 62)).1, of_decide_eq_true (He.ba (c.fact 62)).2⟩,
  He.noat_ok (c.fact 63),
  He.noat_ok (c.fact 64),
  He.eqO_ok (c.fact 65),
  He.eqO_ok (c.fact 66),
  propB_ok (c.fact 67),
  He.str_ok X G (c.fact 68),
  He.str_ok X G (c.fact 69),
  He.str_ok X G (c.fact 70),
  He.str_ok X G (c.fact 71),
  He.str_ok X G (c.fact 72),
  He.str_ok X G (c.fact 73),
  He.str_ok X G (c.fact 74),
  fun {S C} h1 h2 => by subst h1; rw [h2]; exact kitB_ok (c.fact 76) (c.fact 75) (by decide +kernel) (kit_own (by decide +kernel)),
  fun {S C} h1 h2 => by subst h1; rw [h2]; exact kitB_ok (c.fact 77) (c.fact 75) (by decide +kernel) (kit_own (by decide +kernel)),
  fun {S C} h1 h2 => by subst h1; rw [h2]; exact kitB_ok (c.fact 78) (c.fact 75) (by decide +kernel) (kit_own (by decide +kernel)),
  fun {S C} h1 h2 => by subst h1; rw [h2]; exact kitB_ok (c.fact 79) (c.fact 75) (by decide +kernel) (kit_own (by decide +kernel)),
  fun {S C} h1 h2 => by subst h1; rw [h2]; exact kitB_ok (c.fact 80) (c.fact 75) (by decide +kernel) (kit_own (by decide +kernel)),
  fun {S C} h1 h2 => by subst h1; rw [h2]; exact kitB_ok (c.fact 81) (c.fact 75) (by decide +kernel) (kit_own (by decide +kernel)),
  fun {S C} h1 h2 => by subst h1; rw [h2]; exact kitB_ok (c.fact 82) (c.fact 75) (by decide +kernel) (kit_own (by decide +kernel))⟩
theorem facts {P : Program} {w : World} {K : PySem.W.Frag} {h : Heap} {mg : Str → Option Value} {f : Addr} (X : K.In h) (G : h.Ns mainGlobals mg) (hfa : mg ("law" : Str) = some (.ref f)) (c : SaysB fbs fns K) :
    ∃ fd : FuncData, (∀ (s : Shared) (v : Value), BindsTo s fd ⟨[v], []⟩ [("_law_script", v)]) ∧ ∀ base : Heap, K.In base → base.Ns mainGlobals mg → FnOk P w K mg base (L2.CX P w) 10 f fd ["_law_script"] (spLaw K) := by
  have T := txt_of X G c
  obtain ⟨fd__law_mixed, F__law_mixed⟩ := c.fun_ 0 (a := fun K => (He.ga K "_law_mixed")) (x := "_law_mixed") (qual := "_law_mixed") (st := s__law_mixed) rfl
  obtain ⟨fd__law_take, F__law_take⟩ := c.fun_ 1 (a := fun K => (He.ga K "_law_take")) (x := "_law_take") (qual := "_law_take") (st := s__law_take) rfl
  obtain ⟨fd__law_pick, F__law_pick⟩ := c.fun_ 2 (a := fun K => (He.ga K "_law_pick")) (x := "_law_pick") (qual := "_law_pick") (st := s__law_pick) rfl
  obtain ⟨fd__law_day, F__law_day⟩ := c.fun_ 3 (a := fun K => (He.ga K "_law_day")) (x := "_law_day") (qual := "_law_day") (st := s__law_day) rfl
  obtain ⟨fd__law_rhythm, F__law_rhythm⟩ := c.fun_ 4 (a := fun K => (He.ga K "_law_rhythm")) (x := "_law_rhythm") (qual := "_law_rhythm") (st := s__law_rhythm) rfl
  obtain ⟨fd__law_plain_step, F__law_plain_step⟩ := c.fun_ 5 (a := fun K => (He.ga K "_law_plain_step")) (x := "_law_plain_step") (qual := "_law_plain_step") (st := s__law_plain_step) rfl
  obtain ⟨fd__law_steps, F__law_steps⟩ := c.fun_ 6 (a := fun K => (He.ga K "_law_steps")) (x := "_law_steps") (qual := "_law_steps") (st := s__law_steps) rfl
  obtain ⟨fd__law_flat, F__law_flat⟩ := c.fun_ 7 (a := fun K => (He.ga K "_law_flat")) (x := "_law_flat") (qual := "_law_flat") (st := s__law_flat) rfl
  obtain ⟨fd_is_list, F_is_list⟩ := c.fun_ 8 (a := fun K => (He.ga K "is_list")) (x := "is_list") (qual := "is_list") (st := s_is_list) rfl
  obtain ⟨fd_is_number, F_is_number⟩ := c.fun_ 9 (a := fun K => (He.ga K "is_number")) (x := "is_number") (qual := "is_number") (st := s_is_number) rfl
  obtain ⟨fd_is_step_number, F_is_step_number⟩ := c.fun_ 10 (a := fun K => (He.ga K "is_step_number")) (x := "is_step_number") (qual := "is_step_number") (st := s_is_step_number) rfl
  obtain ⟨fd_is_plain_step, F_is_plain_step⟩ := c.fun_ 11 (a := fun K => (He.ga K "is_plain_step")) (x := "is_plain_step") (qual := "is_plain_step") (st := s_is_plain_step) rfl
  obtain ⟨fd_is_add, F_is_add⟩ := c.fun_ 12 (a := fun K => (He.ga K "is_add")) (x := "is_add") (qual := "is_add") (st := s_is_add) rfl
  obtain ⟨fd_is_since, F_is_since⟩ := c.fun_ 13 (a := fun K => (He.ga K "is_since")) (x := "is_since") (qual := "is_since") (st := s_is_since) rfl
  obtain ⟨fd_is_step, F_is_step⟩ := c.fun_ 14 (a := fun K => (He.ga K "is_step")) (x := "is_step") (qual := "is_step") (st := s_is_step) rfl
  obtain ⟨fd_flat, F_flat⟩ := c.fun_ 15 (a := fun K => (He.ga K "flat")) (x := "flat") (qual := "flat") (st := s_flat) rfl
  obtain ⟨fd_common, F_common⟩ := c.fun_ 16 (a := fun K => (He.ga K "common")) (x := "common") (qual := "common") (st := s_common) rfl
  obtain ⟨fd_Rhythm_size, F_Rhythm_size⟩ := c.fun_ 17 (a := fun K => (He5.wf K (He.ga K "Rhythm") "property" "size")) (x := "size") (qual := "Rhythm.size") (st := s_Rhythm_size) rfl
  obtain ⟨fd_common_round, F_common_round⟩ := c.fun_ 18 (a := fun K => (He.ga K "common_round")) (x := "common_round") (qual := "common_round") (st := s_common_round) rfl
  obtain ⟨fd_round_of, F_round_of⟩ := c.fun_ 19 (a := fun K => (He.ga K "round_of")) (x := "round_of") (qual := "round_of") (st := s_round_of) rfl
  obtain ⟨fd_need_few, F_need_few⟩ := c.fun_ 20 (a := fun K => (He.ga K "need_few")) (x := "need_few") (qual := "need_few") (st := s_need_few) rfl
  obtain ⟨fd_Script___init__, F_Script___init__⟩ := c.def_ 21 (d := defAD (fun K => (He.ma K (He.ga K "Script") "__init__")) "__init__" "Script.__init__" s_Script___init__ [.adr (dflA (fun K => (He.ma K (He.ga K "Script") "__init__")) 0)]) rfl
  obtain ⟨fd_are_different, F_are_different⟩ := c.fun_ 22 (a := fun K => (He.ga K "are_different")) (x := "are_different") (qual := "are_different") (st := s_are_different) rfl
  obtain ⟨fd_repeats, F_repeats⟩ := c.fun_ 23 (a := fun K => (He.ga K "repeats")) (x := "repeats") (qual := "repeats") (st := s_repeats) rfl
  obtain ⟨fd_least_form, F_least_form⟩ := c.fun_ 24 (a := fun K => (He.ga K "least_form")) (x := "least_form") (qual := "least_form") (st := s_least_form) rfl
  obtain ⟨fd_Rhythm___init__, F_Rhythm___init__⟩ := c.fun_ 25 (a := fun K => (He.ma K (He.ga K "Rhythm") "__init__")) (x := "__init__") (qual := "Rhythm.__init__") (st := s_Rhythm___init__) rfl
  obtain ⟨fd__law_real0, F__law_real0⟩ := c.fun_ 26 (a := fun K => (He.ga K "_law_real")) (x := "_law_real") (qual := "_law_real") (st := s__law_real0) rfl
  obtain ⟨fd__law_real1, F__law_real1⟩ := c.fun_ 26 (a := fun K => (He.ga K "_law_real")) (x := "_law_real") (qual := "_law_real") (st := s__law_real1) rfl
  obtain ⟨fd__law_real2, F__law_real2⟩ := c.fun_ 26 (a := fun K => (He.ga K "_law_real")) (x := "_law_real") (qual := "_law_real") (st := s__law_real2) rfl
  obtain ⟨fd__law_made, F__law_made⟩ := c.fun_ 27 (a := fun K => (He.ga K "_law_made")) (x := "_law_made") (qual := "_law_made") (st := s__law_made) rfl
  obtain ⟨fd_Script___add__, F_Script___add__⟩ := c.fun_ 28 (a := fun K => (He.ma K (He.ga K "Script") "__add__")) (x := "__add__") (qual := "Script.__add__") (st := s_Script___add__) rfl
  obtain ⟨fd_behind_all0, F_behind_all0⟩ := c.fun_ 29 (a := fun K => (He.ga K "behind_all")) (x := "behind_all") (qual := "behind_all") (st := s_behind_all0) rfl
  obtain ⟨fd_Rhythm___contains__, F_Rhythm___contains__⟩ := c.fun_ 30 (a := fun K => (He.ma K (He.ga K "Rhythm") "__contains__")) (x := "__contains__") (qual := "Rhythm.__contains__") (st := s_Rhythm___contains__) rfl
  obtain ⟨fd_holds, F_holds⟩ := c.fun_ 31 (a := fun K => (He.ga K "holds")) (x := "holds") (qual := "holds") (st := s_holds) rfl
  obtain ⟨fd_behind1, F_behind1⟩ := c.fun_ 32 (a := fun K => (He.ga K "behind")) (x := "behind") (qual := "behind") (st := s_behind1) rfl
  obtain ⟨fd_behind_all1, F_behind_all1⟩ := c.fun_ 29 (a := fun K => (He.ga K "behind_all")) (x := "behind_all") (qual := "behind_all") (st := s_behind_all1) rfl
  obtain ⟨fd_behind2, F_behind2⟩ := c.fun_ 32 (a := fun K => (He.ga K "behind")) (x := "behind") (qual := "behind") (st := s_behind2) rfl
  obtain ⟨fd_behind_all2, F_behind_all2⟩ := c.fun_ 29 (a := fun K => (He.ga K "behind_all")) (x := "behind_all") (qual := "behind_all") (st := s_behind_all2) rfl
  obtain ⟨fd_Script___call__, F_Script___call__⟩ := c.fun_ 33 (a := fun K => (He.ma K (He.ga K "Script") "__call__")) (x := "__call__") (qual := "Script.__call__") (st := s_Script___call__) rfl
  obtain ⟨fd__law_fates_of, F__law_fates_of⟩ := c.fun_ 34 (a := fun K => (He.ga K "_law_fates_of")) (x := "_law_fates_of") (qual := "_law_fates_of") (st := s__law_fates_of) rfl
  obtain ⟨fd_Rhythm___and__, F_Rhythm___and__⟩ := c.fun_ 35 (a := fun K => (He.ma K (He.ga K "Rhythm") "__and__")) (x := "__and__") (qual := "Rhythm.__and__") (st := s_Rhythm___and__) rfl
  obtain ⟨fd_Rhythm___eq__, F_Rhythm___eq__⟩ := c.fun_ 36 (a := fun K => (He.ma K (He.ga K "Rhythm") "__eq__")) (x := "__eq__") (qual := "Rhythm.__eq__") (st := s_Rhythm___eq__) rfl
  obtain ⟨fd_Script___eq__, F_Script___eq__⟩ := c.fun_ 37 (a := fun K => (He.ma K (He.ga K "Script") "__eq__")) (x := "__eq__") (qual := "Script.__eq__") (st := s_Script___eq__) rfl
  obtain ⟨fd__law_begun, F__law_begun⟩ := c.fun_ 38 (a := fun K => (He.ga K "_law_begun")) (x := "_law_begun") (qual := "_law_begun") (st := s__law_begun) rfl
  obtain ⟨fd_law, D_law⟩ := c.def_ 39 (d := defA (fun K => (He.ga K "law")) "law" "law" s_law) rfl
  have F_law : Fun K "law" "law" s_law (He.ga K "law") fd_law := He5.fun_of D_law
  have e := hfa.symm.trans (He.glo_ok X G (c.fact 83))
  cases e
  have B__law_mixed : Binds K fd__law_mixed ["_law_draw"] [] := F__law_mixed.binds fun _ _ _ _ _ _ us hl => match us, hl with | [_], _ => rfl
  have B__law_take : Binds K fd__law_take ["_law_draw", "_law_many"] [] := F__law_take.binds fun _ _ _ _ _ _ us hl => match us, hl with | [_, _], _ => rfl
  have B__law_pick : Binds K fd__law_pick ["_law_draw", "_law_some"] [] := F__law_pick.binds fun _ _ _ _ _ _ us hl => match us, hl with | [_, _], _ => rfl
  have B__law_day : Binds K fd__law_day ["_law_draw", "_law_wide"] [] := F__law_day.binds fun _ _ _ _ _ _ us hl => match us, hl with | [_, _], _ => rfl
  have B__law_rhythm : Binds K fd__law_rhythm ["_law_draw", "_law_base"] [] := F__law_rhythm.binds fun _ _ _ _ _ _ us hl => match us, hl with | [_, _], _ => rfl
  have B__law_plain_step : Binds K fd__law_plain_step ["_law_draw", "_law_base", "_law_wide"] [] := F__law_plain_step.binds fun _ _ _ _ _ _ us hl => match us, hl with | [_, _, _], _ => rfl
  have B__law_steps : Binds K fd__law_steps ["_law_draw", "_law_most", "_law_wide", "_law_has_new"] [] := F__law_steps.binds fun _ _ _ _ _ _ us hl => match us, hl with | [_, _, _, _], _ => rfl
  have B__law_flat : Binds K fd__law_flat ["_law_steps_here"] [] := F__law_flat.binds fun _ _ _ _ _ _ us hl => match us, hl with | [_], _ => rfl
  have B_is_list : Binds K fd_is_list ["thing"] [] := F_is_list.binds fun _ _ _ _ _ _ us hl => match us, hl with | [_], _ => rfl
  have B_is_number : Binds K fd_is_number ["thing"] [] := F_is_number.binds fun _ _ _ _ _ _ us hl => match us, hl with | [_], _ => rfl
  have B_is_step_number : Binds K fd_is_step_number ["thing"] [] := F_is_step_number.binds fun _ _ _ _ _ _ us hl => match us, hl with | [_], _ => rfl
  have B_is_plain_step : Binds K fd_is_plain_step ["thing"] [] := F_is_plain_step.binds fun _ _ _ _ _ _ us hl => match us, hl with | [_], _ => rfl
  have B_is_add : Binds K fd_is_add ["thing"] [] := F_is_add.binds fun _ _ _ _ _ _ us hl => match us, hl with | [_], _ => rfl
  have B_is_since : Binds K fd_is_since ["thing"] [] := F_is_since.binds fun _ _ _ _ _ _ us hl => match us, hl with | [_], _ => rfl
  have B_is_step : Binds K fd_is_step ["thing"] [] := F_is_step.binds fun _ _ _ _ _ _ us hl => match us, hl with | [_], _ => rfl
  have B_flat : Binds K fd_flat ["steps"] [] := F_flat.binds fun _ _ _ _ _ _ us hl => match us, hl with | [_], _ => rfl
  have B_common : Binds K fd_common ["one", "other"] [] := F_common.binds fun _ _ _ _ _ _ us hl => match us, hl with | [_, _], _ => rfl
  have B_Rhythm_size : Binds K fd_Rhythm_size ["self"] [] := F_Rhythm_size.binds fun _ _ _ _ _ _ us hl => match us, hl with | [_], _ => rfl
  have B_common_round : Binds K fd_common_round ["rhythms"] [] := F_common_round.binds fun _ _ _ _ _ _ us hl => match us, hl with | [_], _ => rfl
  have B_round_of : Binds K fd_round_of ["steps"] [] := F_round_of.binds fun _ _ _ _ _ _ us hl => match us, hl with | [_], _ => rfl
  have B_need_few : Binds K fd_need_few ["steps"] [] := F_need_few.binds fun _ _ _ _ _ _ us hl => match us, hl with | [_], _ => rfl
  have B_Script___init__ : Binds K fd_Script___init__ ["self", "steps"] [] := binds_all F_Script___init__ 2 (by simp [defAD, He5.DefA.dvs]) rfl fun _ _ _ _ _ _ _ us its hl h2 => match us, hl, its, h2 with | [_, _], _, [_], _ => ⟨_, rfl, rfl⟩
  have B_are_different : Binds K fd_are_different ["thing", "least", "most"] [] := F_are_different.binds fun _ _ _ _ _ _ us hl => match us, hl with | [_, _, _], _ => rfl
  have B_repeats : Binds K fd_repeats ["size", "rests", "part"] [] := F_repeats.binds fun _ _ _ _ _ _ us hl => match us, hl with | [_, _, _], _ => rfl
  have B_least_form : Binds K fd_least_form ["size", "rests"] [] := F_least_form.binds fun _ _ _ _ _ _ us hl => match us, hl with | [_, _], _ => rfl
  have B_Rhythm___init__ : Binds K fd_Rhythm___init__ ["self", "size", "rests"] [] := F_Rhythm___init__.binds fun _ _ _ _ _ _ us hl => match us, hl with | [_, _, _], _ => rfl
  have B__law_real0 : Binds K fd__law_real0 ["_law_step"] [] := F__law_real0.binds fun _ _ _ _ _ _ us hl => match us, hl with | [_], _ => rfl
  have B__law_real1 : Binds K fd__law_real1 ["_law_step"] [] := F__law_real1.binds fun _ _ _ _ _ _ us hl => match us, hl with | [_], _ => rfl
  have B__law_real2 : Binds K fd__law_real2 ["_law_step"] [] := F__law_real2.binds fun _ _ _ _ _ _ us hl => match us, hl with | [_], _ => rfl
  have B__law_made : Binds K fd__law_made ["_law_steps_here"] [] := F__law_made.binds fun _ _ _ _ _ _ us hl => match us, hl with | [_], _ => rfl
  have B_Script___add__ : Binds K fd_Script___add__ ["self", "other"] [] := F_Script___add__.binds fun _ _ _ _ _ _ us hl => match us, hl with | [_, _], _ => rfl
  have B_behind_all0 : Binds K fd_behind_all0 ["steps", "day"] [] := F_behind_all0.binds fun _ _ _ _ _ _ us hl => match us, hl with | [_, _], _ => rfl
  have B_Rhythm___contains__ : Binds K fd_Rhythm___contains__ ["self", "day"] [] := F_Rhythm___contains__.binds fun _ _ _ _ _ _ us hl => match us, hl with | [_, _], _ => rfl
  have B_holds : Binds K fd_holds ["step", "day"] [] := F_holds.binds fun _ _ _ _ _ _ us hl => match us, hl with | [_, _], _ => rfl
  have B_behind1 : Binds K fd_behind1 ["step", "day"] [] := F_behind1.binds fun _ _ _ _ _ _ us hl => match us, hl with | [_, _], _ => rfl
  have B_behind_all1 : Binds K fd_behind_all1 ["steps", "day"] [] := F_behind_all1.binds fun _ _ _ _ _ _ us hl => match us, hl with | [_, _], _ => rfl
  have B_behind2 : Binds K fd_behind2 ["step", "day"] [] := F_behind2.binds fun _ _ _ _ _ _ us hl => match us, hl with | [_, _], _ => rfl
  have B_behind_all2 : Binds K fd_behind_all2 ["steps", "day"] [] := F_behind_all2.binds fun _ _ _ _ _ _ us hl => match us, hl with | [_, _], _ => rfl
  have B_Script___call__ : Binds K fd_Script___call__ ["self", "day"] [] := F_Script___call__.binds fun _ _ _ _ _ _ us hl => match us, hl with | [_, _], _ => rfl
  have B__law_fates_of : Binds K fd__law_fates_of ["_law_made_here"] [] := F__law_fates_of.binds fun _ _ _ _ _ _ us hl => match us, hl with | [_], _ => rfl
  have B_Rhythm___and__ : Binds K fd_Rhythm___and__ ["self", "other"] [] := F_Rhythm___and__.binds fun _ _ _ _ _ _ us hl => match us, hl with | [_, _], _ => rfl
  have B_Rhythm___eq__ : Binds K fd_Rhythm___eq__ ["self", "other"] [] := F_Rhythm___eq__.binds fun _ _ _ _ _ _ us hl => match us, hl with | [_, _], _ => rfl
  have B_Script___eq__ : Binds K fd_Script___eq__ ["self", "other"] [] := F_Script___eq__.binds fun _ _ _ _ _ _ us hl => match us, hl with | [_, _], _ => rfl
  have B__law_begun : Binds K fd__law_begun ["_law_script"] [] := F__law_begun.binds fun _ _ _ _ _ _ us hl => match us, hl with | [_], _ => rfl
  have b := FunD.bindsA (ps := ["_law_script"]) D_law fun _ _ _ _ _ _ us hl => match us, hl with | [_], _ => rfl
  exact ⟨fd_law, fun s v => b s [v] rfl, fun base _ _ => dd_law T F_law F__law_mixed B__law_mixed F__law_take B__law_take F__law_pick B__law_pick F__law_day B__law_day F__law_rhythm B__law_rhythm F__law_plain_step B__law_plain_step F__law_steps B__law_steps F__law_flat B__law_flat F_is_list B_is_list F_is_number B_is_number F_is_step_number B_is_step_number F_is_plain_step B_is_plain_step F_is_add B_is_add F_is_since B_is_since F_is_step B_is_step F_flat B_flat F_common B_common F_Rhythm_size B_Rhythm_size F_common_round B_common_round F_round_of B_round_of F_need_few B_need_few F_Script___init__ B_Script___init__ F_are_different B_are_different F_repeats B_repeats F_least_form B_least_form F_Rhythm___init__ B_Rhythm___init__ F__law_real0 B__law_real0 F__law_real1 B__law_real1 F__law_real2 B__law_real2 F__law_made B__law_made F_Script___add__ B_Script___add__ F_behind_all0 B_behind_all0 F_Rhythm___contains__ B_Rhythm___contains__ F_holds B_holds F_behind1 B_behind1 F_behind_all1 B_behind_all1 F_behind2 B_behind2 F_behind_all2 B_behind_all2 F_Script___call__ B_Script___call__ F__law_fates_of B__law_fates_of F_Rhythm___and__ B_Rhythm___and__ F_Rhythm___eq__ B_Rhythm___eq__ F_Script___eq__ B_Script___eq__ F__law_begun B__law_begun⟩
end DL
open PySem PySem.W PySem.Calls PyProof.Rows
set_option maxHeartbeats 0 in
theorem PySem.Challenge.cw_stillstruck_k11_whole_scripts_put_togeth_holds : PySem.Challenge.rw_stillstruck_k11_whole_scripts_put_togeth.Holds := by
  w_on; o_law
  refine HandSHeadRun.head_any (r := OpenLaw.row PySem.Challenge.rw_stillstruck_k11_whole_scripts_put_togeth) (q := view (OpenLaw.row PySem.Challenge.rw_stillstruck_k11_whole_scripts_put_togeth).prog [55]) (H := DL.hk) (ob := DL.ob) (M := 20000) (loose := DL.loose) (d := HandSHeadRun.topDef (OpenLaw.row PySem.Challenge.rw_stillstruck_k11_whole_scripts_put_togeth).prog 55) (kwd := []) DL.ob_eq
    (by kernel_rfl) (fun s => by kernel_rfl) DL.run (by kernel_rfl) (by kernel_rfl) (by kernel_rfl) (by rfl) (by first | assumption | decide +kernel) (by decide +kernel) ⟨rfl, rfl, rfl, rfl, rfl, by decide +kernel⟩ ?hw ?hc
  case hw => w_witness2
  case hc =>
    refine DL.walk_ofEW (l := PySem.Challenge.rw_stillstruck_k11_whole_scripts_put_togeth) (n := 63) (k := 10) (x := "_law_script") rfl (by decide) (by kernel_rfl) ⟨rfl, by decide, by decide⟩ ?F
    intro w mg fa h Y G hmg0
    obtain ⟨K, KX, c⟩ := Y
    have hmg : mg ("law" : PySem.Str) = some (.ref fa) := by
      have e : (HandSHeadRun.topDef (OpenLaw.row PySem.Challenge.rw_stillstruck_k11_whole_scripts_put_togeth).prog 55).name = ("law" : PySem.Str) := by kernel_rfl
      rw [← e]
      exact hmg0
    obtain ⟨fd, hb, hF⟩ := DL.facts (P := (PySem.Challenge.rw_stillstruck_k11_whole_scripts_put_togeth).prog) (w := w) KX G hmg c
    exact ⟨K, fd, DL.spLaw K, KX, hb, fun H a ns hl _ hS => ⟨a, ns, rfl, hS, by omega, fun _ => rfl⟩, hF⟩
