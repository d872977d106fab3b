import PyProof.Rows.All
import Wide.All
import OpenK.AllK
import Wide.FinOn
import HandS.ForMost
import HandS.ExcInit
import KE.KStateDown
import HandS.Base
import HandS.Call
import HandS.Ends
import HandS.Exc
import HandS.Defaults
import HandS.Head0
import HandS.Head1
import HandS.Head2
import HandS.HeadEnd
import HandS.HeadHook1
import HandS.HeadHook2
import HandS.StrMore
import HandS.IsInst
import HandS.Zip
import HandS.Style
import HandS.Flow
import HandS.Walk
import HandS.WideBits
import HandS.WordsExc
import HandS.Evl
import KE.IntTextLaws
import HandS.ExcValue
import HandS.ExcField
import HandS.ExcIs
import HandS.CallLocal
import KE.KExcIs
import KE.KIsAll
import HandS.CallSlots
import PyProof.Rows.StrFirst
import PySem.Challenge.RW_roadsettings_k73_sheets_two_at_once
set_option Elab.async false
set_option linter.all false
set_option maxRecDepth 100000
set_option maxHeartbeats 4000000
namespace RS
open PySem PySem.Spec PyProof.Rows L2
/-! the head's facts: K = what some names of the module reach -/
def hRefs (o : Obj) : List Addr := match o.data with
  | .func fd => He.refV fd.code
  | .cls cd => cd.ns :: cd.mro.flatMap He.refV
  | .dict es _ => es.toList.flatMap fun e => He.refV e.val
  | _ => []
def hOuts (g : Addr → Option Obj) (as : List Addr) : List Addr := as.flatMap fun a => match g a with
  | some o => hRefs o
  | none => []
def hName (o : Option Obj) (x : Str) : List Addr := match o with
  | some ⟨_, _, .dict es _, _⟩ => (match es.toList.find? (·.key.isStr x) with
    | some e => He.refV e.val
    | none => [])
  | _ => []
/-- the names' objects, what they name (n steps) -/
def hReach (g : Addr → Option Obj) (as : List Addr) : Nat → List Addr
  | 0 => as
  | n + 1 => as ++ hReach g (hOuts g as) n
def hAs (g : Addr → Option Obj) (ns : List Str) (n : Nat) : List Addr := mainGlobals :: cStatics :: hReach g (ns.flatMap (hName (g mainGlobals))) n
abbrev hAl : Type := He.AlD × Bool
def hObs (fa : List He.Fa) (fn : List He.DefD) (ex : PySem.W.Frag → List Bool) (K : PySem.W.Frag) : hAl := (He.obsD fa fn K, (ex K).all id)
def hVal (fn : List He.DefD) : hAl := (He.valD fn, true)
def hObsG (ns : List Str) (n : Nat) (fa : List He.Fa) (fn : List He.DefD) (ex : PySem.W.Frag → List Bool) (g : Addr → Option Obj) : hAl := hObs fa fn ex (He.frG g (hAs g ns n))
structure hSays (fa : List He.Fa) (fn : List He.DefD) (ex : PySem.W.Frag → List Bool) (K : PySem.W.Frag) : Prop where
  d : He.SaysD fa fn K
  x : (ex K).all id = true
def hHook (ns : List Str) (n : Nat) (fa : List He.Fa) (fn : List He.DefD) (ex : PySem.W.Frag → List Bool) : PySem.W.Hook where
  α := hAl
  obs := fun s => hObsG ns n fa fn ex s.heap.get?
  val := fun _ => hVal fn
  says := fun _ h => ∃ K : PySem.W.Frag, K.In h ∧ hSays fa fn ex K
  of := fun _ _ e => ⟨_, He.frG_in, ⟨congrArg (fun z : hAl => z.1) e, congrArg (fun z : hAl => z.2) e⟩⟩
  keeps := fun _ _ _ ⟨K, hK, c⟩ k => ⟨K, PySem.W.Frag.In.keeps hK k, c⟩
theorem hObsG_eq {ns : List Str} {n : Nat} {fa : List He.Fa} {fn : List He.DefD} {ex : PySem.W.Frag → List Bool} {g : Addr → Option Obj} {s : Shared} (h : ∀ a, g a = s.heap.get? a) : hObsG ns n fa fn ex g = (hHook ns n fa fn ex).obs s := by
  have e : g = s.heap.get? := funext h
  rw [e] <;> rfl
section
variable {fa : List He.Fa} {fn : List He.DefD} {ex : PySem.W.Frag → List Bool} {K : PySem.W.Frag} {mg : Str → Option Value} {h : Heap}
theorem hSays.fact (c : hSays fa fn ex K) (i : Nat) {f : He.Fa} (h : fa[i]? = some f := by rfl) : f.ok K = true := c.d.fact i h
theorem hSays.at_ (c : hSays fa fn ex K) (i : Nat) {b : Bool} (h : (ex K)[i]? = some b := by rfl) : b = true := List.all_eq_true.mp c.x b (List.mem_of_getElem? h)
theorem hSays.fun_ (c : hSays fa fn ex K) (i : Nat) {d : He.DefD} {st : Stmt} (h : fn[i]? = some d := by rfl) (h1 : d.params = defArgs st := by rfl) (h2 : d.body = defBody st := by rfl) (h3 : d.scope = defScope st := by rfl) (h4 : d.dfl = [] := by rfl) :
    ∃ fd, Fun K d.name d.qual st (He.fAd K d.at_) fd := by
  obtain ⟨fd, ⟨oc, od, dV, kV, doc, pm, an, cdv, ct, osl, e, lk, hc, dv, kw⟩, kp⟩ := c.d.def_ i h
  have e0 : d.dvs K = [] := by unfold He.DefD.dvs; rw [h4]; rfl
  rw [e0] at dv
  rcases dv with ⟨_, dn⟩ | ⟨ne, _⟩
  · subst dn
    refine ⟨fd, ⟨oc, od, kV, doc, pm, an, cdv, ct, osl, ?_, lk, hc⟩, kp⟩
    rw [e, h1, h2, h3]
  · exact absurd rfl ne
end
/-- an own error, from ValueError by an own base -/
def oexB (K : PySem.W.Frag) (C : Addr) : Bool := match K.lookup C with
  | some ⟨.type c, _, .cls cd, sl⟩ => (match cd.mro, sl.toList with
    | .ref C' :: bm, [_, _, _, _, some (.builtin n), _] => decide (c = "type") && (decide (C' = C) && (decide (n = "ValueError.__new__") && (!cd.hasDel && (cd.hasDict && HandSPX.refsVE bm))))
    | _, _ => false)
  | _ => false
theorem oexB_ok {K : PySem.W.Frag} {C : Addr} (q : oexB K C = true) : ∃ nm q N bs bm sn sub ab col dd k0 k1 k2 k3 k5, K.lookup C = some (excClassObj nm q C N bs bm true sn sub ab col dd k0 k1 k2 k3 k5 "ValueError.__new__") ∧ HandSPX.refsVE bm = true := by
  unfold oexB at q
  split at q
  · rename_i c dd cd sl ho
    split at q
    · rename_i C' bm k0 k1 k2 k3 n k5 hm hs
      obtain ⟨h1, q⟩ := He.ba q
      obtain ⟨h2, q⟩ := He.ba q
      obtain ⟨h3, q⟩ := He.ba q
      obtain ⟨h4, q⟩ := He.ba q
      obtain ⟨h5, h6⟩ := He.ba q
      have e1 := of_decide_eq_true h1
      have e2 := of_decide_eq_true h2
      have e3 := of_decide_eq_true h3
      have e4 : cd.hasDel = false := by
        cases z : cd.hasDel with
        | false => rfl
        | true => rw [z] at h4; cases h4
      subst e1 e2 e3
      obtain ⟨nm, bs, mro, ns, qn, hd, sn, sub, ab, col, del⟩ := cd
      dsimp only at hm h5 e4
      subst hm h5 e4
      have hsl : sl = #[k0, k1, k2, k3, some (.builtin "ValueError.__new__"), k5] := by
        obtain ⟨l⟩ := sl
        simp only at hs
        rw [hs]
      subst hsl
      exact ⟨nm, qn, ns, bs, bm, sn, sub, ab, col, dd, k0, k1, k2, k3, k5, ho, h6⟩
    · cases q
  · cases q
def fclB (K : PySem.W.Frag) (c mc : Value) (x : Str) (v : Value) : Bool := match PySem.W.findCls K c mc x with
  | some (.val u) => decide (u = v)
  | _ => false
theorem fclB_ok {K : PySem.W.Frag} {c mc : Value} {x : Str} {v : Value} (q : fclB K c mc x v = true) : PySem.W.findCls K c mc x = some (.val v) := by
  unfold fclB at q
  split at q
  · rename_i u h
    rw [h, of_decide_eq_true q]
  · cases q
theorem cls_some' {K : PySem.W.Frag} {C : Addr} (h : PySem.W.hasDictIn K C = true) : (PySem.W.clsIn K C).isSome = true := by
  unfold PySem.W.hasDictIn at h
  cases e : PySem.W.clsIn K C with
  | none => rw [e] at h; cases h
  | some _ => rfl
end RS
set_option Elab.async false
set_option linter.all false
set_option maxRecDepth 100000
set_option maxHeartbeats 4000000

namespace RS
open PySem PySem.Spec PyProof.Rows L2
def top (i : Nat) : Stmt := PySem.Challenge.pw_roadsettings_k73_sheets_two_at_once.main.body.getD i (.Pass ⟨0, 0, 0, 0⟩)
abbrev s_is_name : Stmt := top 23
abbrev s_is_number : Stmt := top 24
abbrev s_is_value : Stmt := top 25
abbrev s_number_in : Stmt := top 72
abbrev s_bare_in : Stmt := top 73
abbrev s_text_in : Stmt := top 74
abbrev s_value_in : Stmt := top 75
abbrev s_set_in : Stmt := top 77
abbrev s_step_in : Stmt := top 78
abbrev s_rows_read : Stmt := top 79
abbrev s_program_at : Stmt := top 80
abbrev s_setting_in : Stmt := top 87
abbrev s_pick_in : Stmt := top 88
abbrev s_picks_in : Stmt := top 89
abbrev s_settings_in : Stmt := top 90
abbrev s_look_settings : Stmt := top 91
abbrev s_look_names : Stmt := top 92
abbrev s_sheet_from : Stmt := top 93
abbrev s_sheet_woven : Stmt := top 94
abbrev s_answers : Stmt := top 95
abbrev s_turns_text : Stmt := top 97
abbrev s_law_refused : Stmt := top 118
abbrev s_law_cell_at : Stmt := top 99
abbrev s_law_box : Stmt := top 100
abbrev s_law_take : Stmt := top 101
abbrev s_law_names : Stmt := top 102
abbrev s_law_value : Stmt := top 103
abbrev s_law_program : Stmt := top 104
abbrev s_law_written : Stmt := top 105
abbrev s_law_rows : Stmt := top 106
abbrev s_law_same : Stmt := top 107
abbrev s_law_cut : Stmt := top 108
abbrev s_law_is_name : Stmt := top 109
abbrev s_law_number_at : Stmt := top 110
abbrev s_law_value_at : Stmt := top 111
abbrev s_law_step : Stmt := top 112
abbrev s_law_read : Stmt := top 113
abbrev s_law_built : Stmt := top 114
abbrev s_law_setting : Stmt := top 115
abbrev s_law_picks : Stmt := top 116
abbrev s_law_sheet : Stmt := top 117
abbrev s_law_good : Stmt := top 119
abbrev s_law_with_fault : Stmt := top 120
abbrev s_law : Stmt := top 121
abbrev s_BadRow___init__ : Stmt := inClass (top 18) 0
def hd_ns0 : List Str := ["ALONE", "BLOCKS", "FIGURES", "INSET", "LETTERS", "MOST_FIGURES_sheet", "MOST_FIGURES_texts", "MOST_LETTERS", "MOST_SIGNS", "QUOTE", "SETTING", "STROKE"]
def hd_ns1 : List Str := ["TASK", "WEAVE", "WITH_NAME", "BadRow", "RoadError", "Known", "Missing", "NoSetting", "NoTask", "NoWorld", "is_name", "is_number"]
def hd_ns2 : List Str := ["is_value", "number_in", "bare_in", "text_in", "value_in_texts", "set_in", "step_in", "rows_read", "program_at", "setting_in", "pick_in", "picks_in"]
def hd_ns3 : List Str := ["settings_in", "look_settings", "look_names", "sheet_from", "sheet_woven", "answers", "turns_text", "_law_refused", "_law_cell_at", "_law_box", "_law_take", "_law_names"]
def hd_ns4 : List Str := ["_law_value", "_law_program", "_law_written", "_law_rows", "_law_same", "_law_cut", "_law_is_name", "_law_number_at", "_law_value_at", "_law_step", "_law_read", "_law_built"]
def hd_ns5 : List Str := ["_law_setting", "_law_picks", "_law_sheet", "_law_good", "_law_with_fault", "law"]
def hd_ns : List Str := hd_ns0 ++ (hd_ns1 ++ (hd_ns2 ++ (hd_ns3 ++ (hd_ns4 ++ (hd_ns5)))))
def hd_d_BadRow___init__ : He.DefD := ⟨("BadRow", some "__init__"), "__init__", "BadRow.__init__", defArgs s_BadRow___init__, defBody s_BadRow___init__, defScope s_BadRow___init__, [], []⟩
def hd_d_is_name : He.DefD := ⟨("is_name", none), "is_name", "is_name", defArgs s_is_name, defBody s_is_name, defScope s_is_name, [], []⟩
def hd_d_is_number : He.DefD := ⟨("is_number", none), "is_number", "is_number", defArgs s_is_number, defBody s_is_number, defScope s_is_number, [], []⟩
def hd_d_is_value : He.DefD := ⟨("is_value", none), "is_value", "is_value", defArgs s_is_value, defBody s_is_value, defScope s_is_value, [], []⟩
def hd_d_number_in : He.DefD := ⟨("number_in", none), "number_in", "number_in", defArgs s_number_in, defBody s_number_in, defScope s_number_in, [], []⟩
def hd_d_bare_in : He.DefD := ⟨("bare_in", none), "bare_in", "bare_in", defArgs s_bare_in, defBody s_bare_in, defScope s_bare_in, [], []⟩
def hd_d_text_in : He.DefD := ⟨("text_in", none), "text_in", "text_in", defArgs s_text_in, defBody s_text_in, defScope s_text_in, [], []⟩
def hd_d_value_in : He.DefD := ⟨("value_in_texts", none), "value_in", "value_in", defArgs s_value_in, defBody s_value_in, defScope s_value_in, [], []⟩
def hd_d_set_in : He.DefD := ⟨("set_in", none), "set_in", "set_in", defArgs s_set_in, defBody s_set_in, defScope s_set_in, [], []⟩
def hd_d_step_in : He.DefD := ⟨("step_in", none), "step_in", "step_in", defArgs s_step_in, defBody s_step_in, defScope s_step_in, [], []⟩
def hd_d_rows_read : He.DefD := ⟨("rows_read", none), "rows_read", "rows_read", defArgs s_rows_read, defBody s_rows_read, defScope s_rows_read, [], []⟩
def hd_d_program_at : He.DefD := ⟨("program_at", none), "program_at", "program_at", defArgs s_program_at, defBody s_program_at, defScope s_program_at, [], []⟩
def hd_d_setting_in : He.DefD := ⟨("setting_in", none), "setting_in", "setting_in", defArgs s_setting_in, defBody s_setting_in, defScope s_setting_in, [], []⟩
def hd_d_pick_in : He.DefD := ⟨("pick_in", none), "pick_in", "pick_in", defArgs s_pick_in, defBody s_pick_in, defScope s_pick_in, [], []⟩
def hd_d_picks_in : He.DefD := ⟨("picks_in", none), "picks_in", "picks_in", defArgs s_picks_in, defBody s_picks_in, defScope s_picks_in, [], []⟩
def hd_d_settings_in : He.DefD := ⟨("settings_in", none), "settings_in", "settings_in", defArgs s_settings_in, defBody s_settings_in, defScope s_settings_in, [], []⟩
def hd_d_look_settings : He.DefD := ⟨("look_settings", none), "look_settings", "look_settings", defArgs s_look_settings, defBody s_look_settings, defScope s_look_settings, [], []⟩
def hd_d_look_names : He.DefD := ⟨("look_names", none), "look_names", "look_names", defArgs s_look_names, defBody s_look_names, defScope s_look_names, [], []⟩
def hd_d_sheet_from : He.DefD := ⟨("sheet_from", none), "sheet_from", "sheet_from", defArgs s_sheet_from, defBody s_sheet_from, defScope s_sheet_from, [], []⟩
def hd_d_sheet_woven : He.DefD := ⟨("sheet_woven", none), "sheet_woven", "sheet_woven", defArgs s_sheet_woven, defBody s_sheet_woven, defScope s_sheet_woven, [], []⟩
def hd_d_answers : He.DefD := ⟨("answers", none), "answers", "answers", defArgs s_answers, defBody s_answers, defScope s_answers, [], []⟩
def hd_d_turns_text : He.DefD := ⟨("turns_text", none), "turns_text", "turns_text", defArgs s_turns_text, defBody s_turns_text, defScope s_turns_text, [], []⟩
def hd_d_law_refused : He.DefD := ⟨("_law_refused", none), "_law_refused", "_law_refused", defArgs s_law_refused, defBody s_law_refused, defScope s_law_refused, [], []⟩
def hd_d_law_cell_at : He.DefD := ⟨("_law_cell_at", none), "_law_cell_at", "_law_cell_at", defArgs s_law_cell_at, defBody s_law_cell_at, defScope s_law_cell_at, [], []⟩
def hd_d_law_box : He.DefD := ⟨("_law_box", none), "_law_box", "_law_box", defArgs s_law_box, defBody s_law_box, defScope s_law_box, [], []⟩
def hd_d_law_take : He.DefD := ⟨("_law_take", none), "_law_take", "_law_take", defArgs s_law_take, defBody s_law_take, defScope s_law_take, [], []⟩
def hd_d_law_names : He.DefD := ⟨("_law_names", none), "_law_names", "_law_names", defArgs s_law_names, defBody s_law_names, defScope s_law_names, [], []⟩
def hd_d_law_value : He.DefD := ⟨("_law_value", none), "_law_value", "_law_value", defArgs s_law_value, defBody s_law_value, defScope s_law_value, [], []⟩
def hd_d_law_program : He.DefD := ⟨("_law_program", none), "_law_program", "_law_program", defArgs s_law_program, defBody s_law_program, defScope s_law_program, [], []⟩
def hd_d_law_written : He.DefD := ⟨("_law_written", none), "_law_written", "_law_written", defArgs s_law_written, defBody s_law_written, defScope s_law_written, [], []⟩
def hd_d_law_rows : He.DefD := ⟨("_law_rows", none), "_law_rows", "_law_rows", defArgs s_law_rows, defBody s_law_rows, defScope s_law_rows, [], []⟩
def hd_d_law_same : He.DefD := ⟨("_law_same", none), "_law_same", "_law_same", defArgs s_law_same, defBody s_law_same, defScope s_law_same, [], []⟩
def hd_d_law_cut : He.DefD := ⟨("_law_cut", none), "_law_cut", "_law_cut", defArgs s_law_cut, defBody s_law_cut, defScope s_law_cut, [], []⟩
def hd_d_law_is_name : He.DefD := ⟨("_law_is_name", none), "_law_is_name", "_law_is_name", defArgs s_law_is_name, defBody s_law_is_name, defScope s_law_is_name, [], []⟩
def hd_d_law_number_at : He.DefD := ⟨("_law_number_at", none), "_law_number_at", "_law_number_at", defArgs s_law_number_at, defBody s_law_number_at, defScope s_law_number_at, [], []⟩
def hd_d_law_value_at : He.DefD := ⟨("_law_value_at", none), "_law_value_at", "_law_value_at", defArgs s_law_value_at, defBody s_law_value_at, defScope s_law_value_at, [], []⟩
def hd_d_law_step : He.DefD := ⟨("_law_step", none), "_law_step", "_law_step", defArgs s_law_step, defBody s_law_step, defScope s_law_step, [], []⟩
def hd_d_law_read : He.DefD := ⟨("_law_read", none), "_law_read", "_law_read", defArgs s_law_read, defBody s_law_read, defScope s_law_read, [], []⟩
def hd_d_law_built : He.DefD := ⟨("_law_built", none), "_law_built", "_law_built", defArgs s_law_built, defBody s_law_built, defScope s_law_built, [], []⟩
def hd_d_law_setting : He.DefD := ⟨("_law_setting", none), "_law_setting", "_law_setting", defArgs s_law_setting, defBody s_law_setting, defScope s_law_setting, [], []⟩
def hd_d_law_picks : He.DefD := ⟨("_law_picks", none), "_law_picks", "_law_picks", defArgs s_law_picks, defBody s_law_picks, defScope s_law_picks, [], []⟩
def hd_d_law_sheet : He.DefD := ⟨("_law_sheet", none), "_law_sheet", "_law_sheet", defArgs s_law_sheet, defBody s_law_sheet, defScope s_law_sheet, [], []⟩
def hd_d_law_good : He.DefD := ⟨("_law_good", none), "_law_good", "_law_good", defArgs s_law_good, defBody s_law_good, defScope s_law_good, [], []⟩
def hd_d_law_with_fault : He.DefD := ⟨("_law_with_fault", none), "_law_with_fault", "_law_with_fault", defArgs s_law_with_fault, defBody s_law_with_fault, defScope s_law_with_fault, [], []⟩
def hd_d_law : He.DefD := ⟨("law", none), "law", "law", defArgs s_law, defBody s_law, defScope s_law, [], []⟩
def hd_fa0 : List He.Fa := [.free "len", .free "all", .free "sum", .free "abs", .free "divmod", .free "isinstance", .free "sorted", .free "int", .free "str", .free "list", .free "tuple", .free "bool"]
def hd_fa1 : List He.Fa := [.free "set", .free "range", .free "enumerate", .free "zip", .free "max", .free "min", .glo "ALONE", .glo "BLOCKS", .str "FIGURES" "0123456789", .str "INSET" "  ", .str "LETTERS" "abcdefghijklmnopqrstuvwxyz", .int "MOST_FIGURES_sheet" 4]
def hd_fa2 : List He.Fa := [.int "MOST_FIGURES_texts" 30, .int "MOST_LETTERS" 8, .int "MOST_SIGNS" 40, .str "QUOTE" "'", .str "SETTING" "setting", .str "STROKE" "\\", .str "TASK" "task", .str "WEAVE" "weave", .glo "WITH_NAME", .glo "BadRow", .glo "RoadError", .glo "Known"]
def hd_fa3 : List He.Fa := [.glo "Missing", .glo "NoSetting", .glo "NoTask", .glo "NoWorld", .free "ValueError", .glo "is_name", .glo "is_number", .glo "is_value", .glo "number_in", .glo "bare_in", .glo "text_in", .glo "value_in_texts"]
def hd_fa4 : List He.Fa := [.glo "set_in", .glo "step_in", .glo "rows_read", .glo "program_at", .glo "setting_in", .glo "pick_in", .glo "picks_in", .glo "settings_in", .glo "look_settings", .glo "look_names", .glo "sheet_from", .glo "sheet_woven"]
def hd_fa5 : List He.Fa := [.glo "answers", .glo "turns_text", .glo "_law_refused", .glo "_law_cell_at", .glo "_law_box", .glo "_law_take", .glo "_law_names", .glo "_law_value", .glo "_law_program", .glo "_law_written", .glo "_law_rows", .glo "_law_same"]
def hd_fa6 : List He.Fa := [.glo "_law_cut", .glo "_law_is_name", .glo "_law_number_at", .glo "_law_value_at", .glo "_law_step", .glo "_law_read", .glo "_law_built", .glo "_law_setting", .glo "_law_picks", .glo "_law_sheet", .glo "_law_good", .glo "_law_with_fault"]
def hd_fa7 : List He.Fa := [.glo "law"]
def hd_fa : List He.Fa := hd_fa0 ++ (hd_fa1 ++ (hd_fa2 ++ (hd_fa3 ++ (hd_fa4 ++ (hd_fa5 ++ (hd_fa6 ++ (hd_fa7)))))))
def hd_fn0 : List He.DefD := [hd_d_BadRow___init__, hd_d_is_name, hd_d_is_number, hd_d_is_value, hd_d_number_in, hd_d_bare_in, hd_d_text_in, hd_d_value_in, hd_d_set_in, hd_d_step_in, hd_d_rows_read, hd_d_program_at]
def hd_fn1 : List He.DefD := [hd_d_setting_in, hd_d_pick_in, hd_d_picks_in, hd_d_settings_in, hd_d_look_settings, hd_d_look_names, hd_d_sheet_from, hd_d_sheet_woven, hd_d_answers, hd_d_turns_text, hd_d_law_refused, hd_d_law_cell_at]
def hd_fn2 : List He.DefD := [hd_d_law_box, hd_d_law_take, hd_d_law_names, hd_d_law_value, hd_d_law_program, hd_d_law_written, hd_d_law_rows, hd_d_law_same, hd_d_law_cut, hd_d_law_is_name, hd_d_law_number_at, hd_d_law_value_at]
def hd_fn3 : List He.DefD := [hd_d_law_step, hd_d_law_read, hd_d_law_built, hd_d_law_setting, hd_d_law_picks, hd_d_law_sheet, hd_d_law_good, hd_d_law_with_fault, hd_d_law]
def hd_fn : List He.DefD := hd_fn0 ++ (hd_fn1 ++ (hd_fn2 ++ (hd_fn3)))
def hd_ex0 (K : PySem.W.Frag) : List Bool := [He.tupB K "ALONE" [.str "begin", .str "late", .str "pass"], He.tupB K "BLOCKS" [.str "begin", .str "late", .str "in"], He.tupB K "WITH_NAME" [.str "look", .str "back", .str "copy", .str "in"], oexB K (He.ga K "BadRow"), He.eqO (PySem.W.findIn K (.ref (He.ga K "BadRow")) "__setattr__") (some (some (.builtin "object.__setattr__"))), decide (PySem.W.subIn K (.ref (He.ga K "BadRow")) (.type "BaseException") = some true), decide (PySem.W.typeIn K (.ref (He.ga K "BadRow")) = some (.type "type")), PySem.W.keepIn K (.ref (He.ga K "BadRow")), He.eqO (PySem.W.findIn K (.ref (He.ga K "BadRow")) "__init__") (some (some (.ref (He.ma K (He.ga K "BadRow") "__init__")))), decide (PySem.W.typeIn K (.ref (He.ma K (He.ga K "BadRow") "__init__")) = some (.type "function")), He.eqO (PySem.W.findIn K (.ref (He.ga K "BadRow")) "what") (some none), He.eqO (PySem.W.specialIn K (.ref (He.ga K "RoadError")) "__getattribute__") (some (some (.builtin "type.__getattribute__")))]
def hd_ex1 (K : PySem.W.Frag) : List Bool := [decide (PySem.W.typeIn K (.ref (He.ga K "RoadError")) = some (.type "type")), PySem.W.readsIn K (He.ga K "RoadError") (.type "type"), fclB K (.ref (He.ga K "RoadError")) (.type "type") "__init__" (.builtin "ValueError.__init__"), decide (PySem.W.exmOne K (.ref (He.ga K "BadRow")) (.ref (He.ga K "RoadError")) = some true), PySem.W.hasDictIn K (He.ga K "BadRow"), He.eqO (PySem.W.findIn K (.ref (He.ga K "BadRow")) "__getattribute__") (some (some (.builtin "BaseException.__getattribute__"))), He.eqO (PySem.W.findIn K (.ref (He.ga K "BadRow")) "__getattr__") (some none), decide (PySem.W.subIn K (.ref (He.ga K "BadRow")) (.type "BaseException") = some true), He.eqO (PySem.W.findIn K (.ref (He.ga K "BadRow")) "__class__") (some (some (.builtin "object.__class__"))), He.eqO (PySem.W.specialIn K (.builtin "object.__class__") "__get__") (some (some (.builtin "getset_descriptor.__get__"))), decide (PySem.W.takesIn K (.builtin "object.__class__") = some true), decide (PySem.W.mroIn K (He.ga K "BadRow") (.type "object") = some true)]
def hd_ex2 (K : PySem.W.Frag) : List Bool := [decide (PySem.W.kitAny K (.ref (He.ga K "BadRow")) [.ref (He.ga K "Known"), .ref (He.ga K "Missing"), .ref (He.ga K "NoSetting"), .ref (He.ga K "NoTask"), .ref (He.ga K "NoWorld")] = some false), decide (PySem.W.kitOne K (.ref (He.ga K "BadRow")) (.ref (He.ga K "BadRow")) = some true), decide (PySem.W.kitOne K (.ref (He.ga K "BadRow")) (.type "ValueError") = some true)]
def hd_ex (K : PySem.W.Frag) : List Bool := hd_ex0 K ++ (hd_ex1 K ++ (hd_ex2 K))

def hd_l0 : List Str := [(Str.ofString "_wall"), (Str.ofString "RoadError"), (Str.ofString "NoTable"), (Str.ofString "NoNode"), (Str.ofString "NoPlace"), (Str.ofString "NotBehind"), (Str.ofString "Known"), (Str.ofString "NoSetting"), (Str.ofString "Missing"), (Str.ofString "NoWorld"), (Str.ofString "Busy"), (Str.ofString "AtHome")]
def hd_l1 : List Str := [(Str.ofString "NoToken"), (Str.ofString "Used"), (Str.ofString "Elsewhere"), (Str.ofString "OutOfTurn"), (Str.ofString "NoTask"), (Str.ofString "BadRow"), (Str.ofString "LETTERS"), (Str.ofString "MOST_LETTERS"), (Str.ofString "BASE"), (Str.ofString "is_name"), (Str.ofString "is_number"), (Str.ofString "is_value")]
def hd_l2 : List Str := [(Str.ofString "alike"), (Str.ofString "mark"), (Str.ofString "digit"), (Str.ofString "BARE"), (Str.ofString "FIRST"), (Str.ofString "is_leaf"), (Str.ofString "is_fork"), (Str.ofString "Nodes"), (Str.ofString "value_in"), (Str.ofString "value_in_nodes"), (Str.ofString "pairs_with"), (Str.ofString "pairs_without")]
def hd_l3 : List Str := [(Str.ofString "with_part"), (Str.ofString "NO_PARTS"), (Str.ofString "Store"), (Str.ofString "BEGIN"), (Str.ofString "Stop"), (Str.ofString "Roads"), (Str.ofString "Tokens"), (Str.ofString "Hall"), (Str.ofString "inner_of"), (Str.ofString "gather"), (Str.ofString "names_in"), (Str.ofString "Block")]
def hd_l4 : List Str := [(Str.ofString "Task"), (Str.ofString "Loom"), (Str.ofString "woven"), (Str.ofString "FIGURES"), (Str.ofString "MOST_FIGURES_texts"), (Str.ofString "MOST_SIGNS"), (Str.ofString "QUOTE"), (Str.ofString "STROKE"), (Str.ofString "INSET"), (Str.ofString "BLOCKS"), (Str.ofString "ALONE"), (Str.ofString "WITH_NAME")]
def hd_l5 : List Str := [(Str.ofString "value_text"), (Str.ofString "number_in"), (Str.ofString "bare_in"), (Str.ofString "text_in"), (Str.ofString "value_in_texts"), (Str.ofString "set_in"), (Str.ofString "step_in"), (Str.ofString "rows_read"), (Str.ofString "program_at"), (Str.ofString "note_row"), (Str.ofString "SETTING"), (Str.ofString "WEAVE")]
def hd_l6 : List Str := [(Str.ofString "TASK"), (Str.ofString "MOST_FIGURES_sheet"), (Str.ofString "setting_in"), (Str.ofString "pick_in"), (Str.ofString "picks_in"), (Str.ofString "settings_in"), (Str.ofString "look_settings"), (Str.ofString "look_names"), (Str.ofString "sheet_from"), (Str.ofString "sheet_woven"), (Str.ofString "answers"), (Str.ofString "path_word")]
def hd_l7 : List Str := [(Str.ofString "turns_text"), (Str.ofString "_law_cell_at"), (Str.ofString "_law_box"), (Str.ofString "_law_take"), (Str.ofString "_law_names"), (Str.ofString "_law_value"), (Str.ofString "_law_program"), (Str.ofString "_law_written"), (Str.ofString "_law_rows"), (Str.ofString "_law_same"), (Str.ofString "_law_cut"), (Str.ofString "_law_is_name")]
def hd_l8 : List Str := [(Str.ofString "_law_number_at"), (Str.ofString "_law_value_at"), (Str.ofString "_law_step"), (Str.ofString "_law_read"), (Str.ofString "_law_built"), (Str.ofString "_law_setting"), (Str.ofString "_law_picks"), (Str.ofString "_law_sheet"), (Str.ofString "_law_refused"), (Str.ofString "_law_good"), (Str.ofString "_law_with_fault")]
def hd_loose : List Str := hd_l0 ++ (hd_l1 ++ (hd_l2 ++ (hd_l3 ++ (hd_l4 ++ (hd_l5 ++ (hd_l6 ++ (hd_l7 ++ (hd_l8))))))))
abbrev hd_R : PySem.W.OpenRow := PySem.W.OpenLaw.row PySem.Challenge.rw_roadsettings_k73_sheets_two_at_once
abbrev hd_H : PySem.W.Hook := hHook hd_ns 3 hd_fa hd_fn hd_ex
def hd_ob (s : PySem.W.SharedT) : hAl := hObsG hd_ns 3 hd_fa hd_fn hd_ex (HandSHeadRun.getT s)
theorem hd_ob_eq (s : PySem.W.SharedT) : hd_ob s = hd_H.obs s.abs := hObsG_eq (HandSHeadRun.getT_eq s)
set_option maxHeartbeats 0 in
theorem hd_run (w : World) : HandSHeadRun.RunEq hd_R (PySem.W.view hd_R.prog [121]) hd_H hd_ob 12000 hd_loose w := by
  intro os
  kernel_rfl
end RS
set_option Elab.async false
set_option linter.all false
set_option maxRecDepth 100000
set_option maxHeartbeats 4000000
/-! Kit: own words over the hand layer: how heaps grow, data by their values, rules that look at the values, steps. -/
namespace RS
open PySem L2

/-! ### heaps: all but fp is kept, tuples always, nothing goes away -/
structure Gr (fp : List Addr) (H H' : Hp) : Prop where
  keep : ∀ a o, H a = some o → a ∉ fp → H' a = some o
  tup : ∀ a xs, H a = some (.tup xs) → H' a = some (.tup xs)
  live : ∀ a o, H a = some o → ∃ o', H' a = some o'
section
variable {fp fp' : List Addr} {H H1 H2 H' : Hp} {a b p : Addr} {o o' u : HO} {xs : List V} {K : PySem.W.Frag}
theorem Gr.refl (fp : List Addr) (H : Hp) : Gr fp H H := ⟨fun _ _ h _ => h, fun _ _ h => h, fun _ o h => ⟨o, h⟩⟩
theorem Gr.trans (x : Gr fp H H1) (y : Gr fp H1 H2) : Gr fp H H2 :=
  ⟨fun a o h n => y.keep a o (x.keep a o h n) n, fun a xs h => y.tup a xs (x.tup a xs h), fun a o h => let ⟨o1, h1⟩ := x.live a o h; y.live a o1 h1⟩
theorem Gr.mono (x : Gr fp H H1) (h : ∀ a ∈ fp, a ∈ fp') : Gr fp' H H1 := ⟨fun a o e n => x.keep a o e fun z => n (h a z), x.tup, x.live⟩
theorem Gr.wide (x : Gr [] H H1) : Gr fp H H1 := x.mono (fun _ h => nomatch h)
theorem Gr.new (hp : H p = none) : Gr fp H (upd H p o) :=
  ⟨fun a u e _ => by rw [upd_ne (ne_of_none e hp)]; exact e, fun a u e => by rw [upd_ne (ne_of_none e hp)]; exact e, fun a u e => ⟨u, by rw [upd_ne (ne_of_none e hp)]; exact e⟩⟩
def notTup : HO → Bool
  | .tup _ => false
  | _ => true
theorem Gr.put (hb : H b = some u) (nt : notTup u = true) (hm : b ∈ fp) : Gr fp H (upd H b o) := by
  refine ⟨fun a v e n => ?_, fun a v e => ?_, fun a v e => ?_⟩
  · rw [upd_ne (fun z => n (by rw [z]; exact hm))]; exact e
  · have n : a ≠ b := fun z => by subst z; rw [hb] at e; cases e; exact Bool.noConfusion nt
    rw [upd_ne n]; exact e
  · by_cases h : a = b
    · subst h; exact ⟨o, upd_same⟩
    · exact ⟨v, by rw [upd_ne h]; exact e⟩
/-- a new object may be changed as if it had not been there -/
theorem Gr.fresh (g : Gr (p :: fp) H H1) (hp : H p = none) : Gr fp H H1 :=
  ⟨fun a o e n => g.keep a o e (by
    intro z
    rcases List.mem_cons.mp z with z | z
    · subst z; rw [hp] at e; cases e
    · exact n z), g.tup, g.live⟩
theorem Gr.get (g : Gr fp H H') (h : H a = some o) (n : a ∉ fp) : H' a = some o := g.keep a o h n
theorem Gr.get0 (g : Gr [] H H') (h : H a = some o) : H' a = some o := g.keep a o h (fun z => nomatch z)
theorem Gr.free (g : Gr fp H H') (h : H' p = none) : H p = none := by
  cases e : H p with
  | none => rfl
  | some o =>
    obtain ⟨o', q⟩ := g.live p o e
    rw [h] at q; cases q
theorem Gr.sqT (g : Gr fp H H') (h : SqT K H a xs) (n : a ∉ fp) : SqT K H' a xs := by
  rcases h with (h | ⟨o, h⟩) | h
  · exact .inl (.inl (g.tup _ _ h))
  · exact .inl (.inr ⟨o, g.keep _ _ h n⟩)
  · exact .inr h
theorem Gr.sqL (g : Gr fp H H') (h : SqL K H a xs) (n : a ∉ fp) : SqL K H' a xs := by
  rcases h with (h | ⟨o, h⟩) | h
  · exact .inl (.inl (g.keep _ _ h n))
  · exact .inl (.inr ⟨o, g.keep _ _ h n⟩)
  · exact .inr h
theorem Gr.same (g : Gr [] H H') : Same H H' := fun a o h => g.get0 h
theorem nin_nil : a ∉ ([] : List Addr) := fun z => nomatch z
theorem nin_one (h : a ≠ b) : a ∉ [b] := fun z => by rcases List.mem_cons.mp z with z | z; exact h z; exact nomatch z
theorem ne_new (h : H a = some o) (hp : H p = none) : a ≠ p := ne_of_none h hp
theorem sz_of {n : Nat} (h : n ≤ 16777216) : n ≤ sizeLine := h
theorem sz_lt {n : Nat} (h : n < 16777216) : n < sizeLine := h
end
/-- new objects, told apart from what was -/
theorem new_obj {H : Hp} {o : HO} {Q : VK} (h : ∀ p H', Gr [] H H' → H p = none → H' p = some o → Q (.ref p) H') : ∀ p, H p = none → Q (.ref p) (upd H p o) :=
  fun p hp => h p _ (Gr.new hp) hp upd_same
theorem put_obj {H : Hp} {b : Addr} {u o : HO} {Q : Hp → Prop} (hb : H b = some u) (nt : notTup u = true) (h : ∀ H', Gr [b] H H' → H' b = some o → Q H') : Q (upd H b o) :=
  h _ (Gr.put hb nt (List.mem_cons_self)) upd_same

/-! ### data -/
inductive PD where
  | non | bl (b : Bool) | int (i : Int) | str (s : Str) | tup (l : List PD) | lst (l : List PD) | ref (a : Addr) | ty (n : String) | ro (l : List PD)
mutual
def TRep (H : Hp) : PD → V → Prop
  | .non, v => v = .non
  | .bl b, v => v = .bl b
  | .int i, v => v = .int i
  | .str s, v => v = .str s
  | .ref a, v => v = .ref a
  | .ty n, v => v = .ty n
  | .ro _, _ => False
  | .tup ds, v => ∃ a xs, v = .ref a ∧ H a = some (.tup xs) ∧ TReps H ds xs
  | .lst ds, v => ∃ a xs, v = .ref a ∧ H a = some (.lst xs) ∧ TReps H ds xs
def TReps (H : Hp) : List PD → List V → Prop
  | [], xs => xs = []
  | d :: ds, xs => ∃ x r, xs = x :: r ∧ TRep H d x ∧ TReps H ds r
end
mutual
/-- tuples all the way -/
def PD.fix : PD → Bool
  | .tup ds => PD.fixs ds
  | .lst _ => false
  | _ => true
def PD.fixs : List PD → Bool
  | [] => true
  | d :: ds => d.fix && PD.fixs ds
end
mutual
theorem TRep.keep {H H' : Hp} (e : ∀ a o, H a = some o → H' a = some o) : ∀ {d : PD} {v : V}, TRep H d v → TRep H' d v
  | .ref _, _, h => h
  | .ty _, _, h => h
  | .ro _, _, h => h
  | .non, _, h => h
  | .bl _, _, h => h
  | .int _, _, h => h
  | .str _, _, h => h
  | .tup ds, v, h => by
    unfold TRep at h ⊢
    obtain ⟨a, xs, h1, h2, h3⟩ := h
    exact ⟨a, xs, h1, e _ _ h2, TReps.keep e h3⟩
  | .lst ds, v, h => by
    unfold TRep at h ⊢
    obtain ⟨a, xs, h1, h2, h3⟩ := h
    exact ⟨a, xs, h1, e _ _ h2, TReps.keep e h3⟩
theorem TReps.keep {H H' : Hp} (e : ∀ a o, H a = some o → H' a = some o) : ∀ {ds : List PD} {xs : List V}, TReps H ds xs → TReps H' ds xs
  | [], _, h => h
  | d :: ds, xs, h => by
    unfold TReps at h ⊢
    obtain ⟨x, r, h1, h2, h3⟩ := h
    exact ⟨x, r, h1, TRep.keep e h2, TReps.keep e h3⟩
end
mutual
theorem TRep.tup {H H' : Hp} (e : ∀ a xs, H a = some (.tup xs) → H' a = some (.tup xs)) : ∀ {d : PD} {v : V}, d.fix = true → TRep H d v → TRep H' d v
  | .ref _, _, _, h => h
  | .ty _, _, _, h => h
  | .ro _, _, _, h => h
  | .non, _, _, h => h
  | .bl _, _, _, h => h
  | .int _, _, _, h => h
  | .str _, _, _, h => h
  | .tup ds, v, f, h => by
    unfold TRep at h ⊢
    obtain ⟨a, xs, h1, h2, h3⟩ := h
    exact ⟨a, xs, h1, e _ _ h2, TReps.tup e (by simpa [PD.fix] using f) h3⟩
  | .lst ds, v, f, h => by simp [PD.fix] at f
theorem TReps.tup {H H' : Hp} (e : ∀ a xs, H a = some (.tup xs) → H' a = some (.tup xs)) : ∀ {ds : List PD} {xs : List V}, PD.fixs ds = true → TReps H ds xs → TReps H' ds xs
  | [], _, _, h => h
  | d :: ds, xs, f, h => by
    unfold TReps at h ⊢
    obtain ⟨x, r, h1, h2, h3⟩ := h
    have f' : d.fix = true ∧ PD.fixs ds = true := by simpa [PD.fixs] using f
    exact ⟨x, r, h1, TRep.tup e f'.1 h2, TReps.tup e f'.2 h3⟩
end
theorem Gr.rep0 {H H' : Hp} {d : PD} {v : V} (g : Gr [] H H') (h : TRep H d v) : TRep H' d v := TRep.keep (fun _ _ q => g.get0 q) h
theorem Gr.reps0 {H H' : Hp} {d : List PD} {v : List V} (g : Gr [] H H') (h : TReps H d v) : TReps H' d v := TReps.keep (fun _ _ q => g.get0 q) h
theorem Gr.rep {fp : List Addr} {H H' : Hp} {d : PD} {v : V} (g : Gr fp H H') (h : TRep H d v) (f : d.fix = true) : TRep H' d v := TRep.tup g.tup f h
theorem Gr.reps {fp : List Addr} {H H' : Hp} {d : List PD} {v : List V} (g : Gr fp H H') (h : TReps H d v) (f : PD.fixs d = true) : TReps H' d v := TReps.tup g.tup f h
theorem treps_nil {H : Hp} : TReps H [] [] := by unfold TReps; rfl
theorem treps_cons {H : Hp} {d : PD} {ds : List PD} {x : V} {xs : List V} (h : TRep H d x) (r : TReps H ds xs) : TReps H (d :: ds) (x :: xs) := by unfold TReps; exact ⟨x, xs, rfl, h, r⟩
theorem treps_append {H : Hp} : ∀ {ds es : List PD} {xs ys : List V}, TReps H ds xs → TReps H es ys → TReps H (ds ++ es) (xs ++ ys)
  | [], _, _, _, h, r => by unfold TReps at h; subst h; exact r
  | d :: ds, es, xs, ys, h, r => by
    unfold TReps at h
    obtain ⟨x, t, rfl, h1, h2⟩ := h
    exact treps_cons h1 (treps_append h2 r)
theorem treps_len {H : Hp} : ∀ {ds : List PD} {xs : List V}, TReps H ds xs → xs.length = ds.length
  | [], _, h => by unfold TReps at h; subst h; rfl
  | d :: ds, xs, h => by
    unfold TReps at h
    obtain ⟨x, r, rfl, _, h3⟩ := h
    simp [treps_len h3]
theorem treps_get {H : Hp} : ∀ {ds : List PD} {xs : List V} {i : Nat} {x : V}, TReps H ds xs → xs[i]? = some x → ∃ d, ds[i]? = some d ∧ TRep H d x
  | [], _, i, x, h, e => by unfold TReps at h; subst h; simp at e
  | d :: ds, xs, i, x, h, e => by
    unfold TReps at h
    obtain ⟨y, r, rfl, h1, h3⟩ := h
    cases i with
    | zero => simp at e; subst e; exact ⟨d, rfl, h1⟩
    | succ i => simp at e; obtain ⟨d', q, t⟩ := treps_get h3 e; exact ⟨d', by simpa using q, t⟩
theorem treps_get' {H : Hp} : ∀ {ds : List PD} {xs : List V} {i : Nat} {d : PD}, TReps H ds xs → ds[i]? = some d → ∃ x, xs[i]? = some x ∧ TRep H d x
  | [], _, i, x, h, e => by simp at e
  | d :: ds, xs, i, x, h, e => by
    unfold TReps at h
    obtain ⟨y, r, rfl, h1, h3⟩ := h
    cases i with
    | zero => simp at e; subst e; exact ⟨y, rfl, h1⟩
    | succ i => simp at e; obtain ⟨d', q, t⟩ := treps_get' h3 e; exact ⟨d', by simpa using q, t⟩
theorem treps_strs {H : Hp} : ∀ (ss : List Str), TReps H (ss.map PD.str) (ss.map V.str)
  | [] => treps_nil
  | s :: ss => treps_cons (by unfold TRep; rfl) (treps_strs ss)
theorem treps_ints {H : Hp} : ∀ (ss : List Int), TReps H (ss.map PD.int) (ss.map V.int)
  | [] => treps_nil
  | s :: ss => treps_cons (by unfold TRep; rfl) (treps_ints ss)

/-! ### promises -/
/-- a def that changes nothing and tells f of its arguments -/
def spF (f : List V → Option V) : Sp := fun vs H Q _ => ∃ v, f vs = some v ∧ ∀ H', Gr [] H H' → Q v H'
/-- .. tells a datum -/
def spD (f : List V → Option PD) : Sp := fun vs H Q _ => ∃ d, f vs = some d ∧ ∀ v H', Gr [] H H' → TRep H' d v → Q v H'

/-! ### rules that look at the values -/
section
variable {X : Cx}
theorem PI.or {tg e : Expr} {w1 w2 : TI} (h1 : PI X tg e w1) (h2 : PI X tg e w2) : PI X tg e (fun σ H R => w1 σ H R ∨ w2 σ H R) :=
  ⟨fun pins s σ H R I h => h.elim (h1.run pins s σ H R I) (h2.run pins s σ H R I)⟩
def iAny (K : PySem.W.Frag) (te : TE) : TI := fun σ H R => iList K te σ H R ∨ iTup K te σ H R ∨ iStr te σ H R
theorem pi_any {tg e : Expr} {te : TE} (h : PE X e te) : PI X tg e (iAny X.K te) := PI.or (pi_list h) (PI.or (pi_tup h) (pi_str h))

def rAddA (K : PySem.W.Frag) : R2 := fun x y H Q => match x, y with
  | .int i, .int j => Q (.int (i + j)) H
  | .int i, .bl k => Q (.int (i + PyProof.Rows.b2i k)) H
  | .str a, .str b => a.length + b.length ≤ sizeLine ∧ Q (.str (a ++ b)) H
  | .ref a, .ref b => rCat (.ref a) (.ref b) H Q ∨ rCatT K (.ref a) (.ref b) H Q
  | _, _ => False
theorem op_addA : OpR X (binaryOp .Add) (rAddA X.K) := by
  intro pins s σ H x y v u Q I rx ry h
  cases x <;> cases y <;> first | exact False.elim h | skip
  · exact op_add_ib pins s σ H _ _ v u Q I rx ry ⟨_, _, rfl, rfl, h⟩
  · exact op_add pins s σ H _ _ v u Q I rx ry ⟨_, _, rfl, rfl, h⟩
  · exact op_add_str pins s σ H _ _ v u Q I rx ry ⟨_, _, rfl, rfl, h.1, h.2⟩
  · rcases h with h | h
    · exact op_cat pins s σ H _ _ v u Q I rx ry h
    · exact op_catT pins s σ H _ _ v u Q I rx ry h
def rEqA (K : PySem.W.Frag) : R2 := fun x y H Q => rEq x y H Q ∨ rEqD K x y H Q
theorem op_eqA (hu : X.A.units + 64 < cLine) : OpR X (compareOp .Eq) (rEqA X.K) := OpR.or op_eq (op_eqD hu)
def rNeA (K : PySem.W.Frag) : R2 := fun x y H Q => rNe x y H Q ∨ rNeD K x y H Q
theorem op_neA (hu : X.A.units + 64 < cLine) : OpR X (compareOp .NotEq) (rNeA X.K) := OpR.or op_ne (op_neD hu)
/-- <=, < of ints and texts -/
def rLeA : R2 := fun x y H Q => match x, y with
  | .int i, .int j => Q (.bl (decide (i ≤ j))) H
  | .str i, .str j => Q (.bl (!decide (j.cps.toList < i.cps.toList))) H
  | _, _ => False
theorem op_leA : OpR X (compareOp .LtE) rLeA := by
  intro pins s σ H x y v u Q I rx ry h
  cases x <;> cases y <;> first | exact False.elim h | skip
  · exact op_le pins s σ H _ _ v u Q I rx ry ⟨_, _, rfl, rfl, h⟩
  · exact op_le_str pins s σ H _ _ v u Q I rx ry ⟨_, _, rfl, rfl, h⟩
/-- in: one sign in a text, a flat thing in a list or tuple -/
def rInA (K : PySem.W.Frag) : R2 := fun x y H Q => match x, y with
  | .str z, .str t => ∃ c, z = ⟨#[c]⟩ ∧ Q (.bl (decide (c ∈ t.cps.toList))) H
  | x, .ref p => rIn K false x (.ref p) H Q
  | _, _ => False
theorem op_inA : OpR X (compareOp .In) (rInA X.K) := by
  intro pins s σ H x y v u Q I rx ry h
  cases y with
  | str t =>
    cases x <;> first | exact False.elim h | skip
    obtain ⟨c, rfl, h⟩ := h
    exact op_in_sign pins s σ H _ _ v u Q I rx ry ⟨c, t, rfl, rfl, h⟩
  | ref p =>
    have h' : rIn X.K false x (.ref p) H Q := by cases x <;> exact h
    exact op_in_seq pins s σ H _ _ v u Q I rx ry h'
  | _ => cases x <;> exact False.elim h
def rNinA (K : PySem.W.Frag) : R2 := fun x y H Q => match x, y with
  | .str z, .str t => ∃ c, z = ⟨#[c]⟩ ∧ Q (.bl (!decide (c ∈ t.cps.toList))) H
  | x, .ref p => rIn K true x (.ref p) H Q
  | _, _ => False
theorem op_ninA : OpR X (compareOp .NotIn) (rNinA X.K) := by
  intro pins s σ H x y v u Q I rx ry h
  cases y with
  | str t =>
    cases x <;> first | exact False.elim h | skip
    obtain ⟨c, rfl, h⟩ := h
    exact op_notIn_sign pins s σ H _ _ v u Q I rx ry ⟨c, t, rfl, rfl, h⟩
  | ref p =>
    have h' : rIn X.K true x (.ref p) H Q := by cases x <;> exact h
    exact op_notIn_seq pins s σ H _ _ v u Q I rx ry h'
  | _ => cases x <;> exact False.elim h
def rIxA (K : PySem.W.Frag) : R2 := rIx K
theorem ix_any : IxR X (rIxA X.K) := ix_seq
def rSlA (K : PySem.W.Frag) : V → Option Int → Option Int → Hp → VK → Prop := fun x lo hi H Q => rSlS x lo hi H Q ∨ rSlL K x lo hi H Q ∨ rSlT K x lo hi H Q
theorem sl_any : SlR X (rSlA X.K) := SlR.or sl_str (SlR.or sl_list sl_tup)
/-- += of ints and texts -/
def ipAdd : TIp := fun x y H Q => match x, y with
  | .int i, .int j => Q (.int (i + j)) H
  | .str a, .str b => a.length + b.length ≤ sizeLine ∧ Q (.str (a ++ b)) H
  | _, _ => False
theorem ip_addA : PIp X .Add ipAdd := by
  intro pins s σ H x y v u Q I rx ry h
  cases x <;> cases y <;> first | exact False.elim h | skip
  · exact ip_add pins s σ H _ _ v u Q I rx ry ⟨_, _, rfl, rfl, h⟩
  · exact iop_add_str pins s σ H _ _ v u Q I rx ry ⟨_, _, rfl, rfl, h.1, h.2⟩
end

/-! ### the text's facts -/
structure FnT (K : PySem.W.Frag) (mg : Str → Option Value) (x qual : Str) (st : Stmt) (ps : List Str) where
  a : Addr
  d : FuncData
  F : Fun K qual qual st a d
  b : Binds K d ps []
  g : mg x = some (.ref a)
structure MeT (K : PySem.W.Frag) (C : Addr) (m qual : Str) (st : Stmt) (ps : List Str) where
  a : Addr
  d : FuncData
  F : Fun K m qual st a d
  b : Binds K d ps []
  me : Meth K C m a
def NA (K : PySem.W.Frag) (C : Addr) : List Str → Prop
  | [] => True
  | f :: r => NoAttr K C f ∧ NA K C r
structure ClT (K : PySem.W.Frag) (mg : Str → Option Value) (x : Str) (fs : List Str) where
  C : Addr
  g : mg x = some (.ref C)
  c : Cls K C
  na : NA K C fs
theorem hu64 {A : Around} {k : Nat} (hr : Room k A) : A.units + 64 < cLine := hr.units
theorem bt_len : bootBuiltins "len" = some (.builtin "len") := by decide +kernel
theorem bt_all : bootBuiltins "all" = some (.builtin "all") := by decide +kernel
theorem bt_any : bootBuiltins "any" = some (.builtin "any") := by decide +kernel
theorem bt_sum : bootBuiltins "sum" = some (.builtin "sum") := by decide +kernel
theorem bt_abs : bootBuiltins "abs" = some (.builtin "abs") := by decide +kernel
theorem bt_max : bootBuiltins "max" = some (.builtin "max") := by decide +kernel
theorem bt_min : bootBuiltins "min" = some (.builtin "min") := by decide +kernel
theorem bt_divmod : bootBuiltins "divmod" = some (.builtin "divmod") := by decide +kernel
theorem bt_isinstance : bootBuiltins "isinstance" = some (.builtin "isinstance") := by decide +kernel
theorem bt_sorted : bootBuiltins "sorted" = some (.builtin "sorted") := by decide +kernel
theorem bt_int : bootBuiltins "int" = some (.type "int") := by decide +kernel
theorem bt_str : bootBuiltins "str" = some (.type "str") := by decide +kernel
theorem bt_list : bootBuiltins "list" = some (.type "list") := by decide +kernel
theorem bt_tuple : bootBuiltins "tuple" = some (.type "tuple") := by decide +kernel
theorem bt_bool : bootBuiltins "bool" = some (.type "bool") := by decide +kernel
theorem bt_dict : bootBuiltins "dict" = some (.type "dict") := by decide +kernel

/-! ### isinstance of the built-in kinds -/
/-- a thing's kind -/
def kindOf (H : Hp) : V → Option String
  | .non => some "NoneType"
  | .bl _ => some "bool"
  | .int _ => some "int"
  | .str _ => some "str"
  | .ref a => match H a with
    | some (.lst _) => some "list"
    | some (.tup _) => some "tuple"
    | some (.dK _) => some "dict"
    | _ => none
  | _ => none
def isa (k T : String) : Bool := k == T || (k == "bool" && T == "int")
section
variable {X : Cx}
def rIsiA (K : PySem.W.Frag) : List V → Hp → VK → Prop := fun xs H Q => ∃ x T k, xs = [x, .ty T] ∧ kindOf H x = some k ∧ (T = "int" ∨ T = "str" ∨ T = "bool" ∨ T = "list" ∨ T = "tuple") ∧ Q (.bl (isa k T)) H
def rIsi2 (K : PySem.W.Frag) : List V → Hp → VK → Prop := fun xs H Q => ∃ x p T U k, xs = [x, .ref p] ∧ H p = some (.tup [.ty T, .ty U]) ∧ kindOf H x = some k ∧ (T = "int" ∨ T = "str" ∨ T = "bool" ∨ T = "list" ∨ T = "tuple") ∧ (U = "int" ∨ U = "str" ∨ U = "bool" ∨ U = "list" ∨ U = "tuple") ∧ Q (.bl (isa k T || isa k U)) H
theorem kind_ty {K : PySem.W.Frag} {H : Hp} {x : V} {k : String} (h : kindOf H x = some k) : TyX K H x (.type k) ∧ (k = "NoneType" ∨ k = "bool" ∨ k = "int" ∨ k = "str" ∨ k = "list" ∨ k = "tuple" ∨ k = "dict") := by
  unfold kindOf at h
  split at h
  · cases h; exact ⟨.base .non, by simp⟩
  · cases h; exact ⟨.base (.bl _), by simp⟩
  · cases h; exact ⟨.base (.int _), by simp⟩
  · cases h; exact ⟨.base (.str _), by simp⟩
  · split at h
    · rename_i e; cases h; exact ⟨.base (.lst e), by simp⟩
    · rename_i e; cases h; exact ⟨.base (.tup e), by simp⟩
    · rename_i e; cases h; exact ⟨.base (.dK e), by simp⟩
    · cases h
  · cases h

theorem kit_isa {K : PySem.W.Frag} {k T : String} (hk : k = "NoneType" ∨ k = "bool" ∨ k = "int" ∨ k = "str" ∨ k = "list" ∨ k = "tuple" ∨ k = "dict") (hT : T = "int" ∨ T = "str" ∨ T = "bool" ∨ T = "list" ∨ T = "tuple") :
    PySem.W.kitOne K (.type k) (.type T) = some (isa k T) := by
  rcases hk with rfl | rfl | rfl | rfl | rfl | rfl | rfl <;> rcases hT with rfl | rfl | rfl | rfl | rfl <;> exact kit_ty (by decide +kernel)
theorem call_isiA : CallR X (.builtin "isinstance") (fun xs H Q => rIsiA X.K xs H Q ∨ rIsi2 X.K xs H Q) := by
  refine CallR.or ?_ ?_
  · intro pins s σ H xs us Q I r h
    obtain ⟨x, T, k, rfl, hk, hT, q⟩ := h
    exact call_isi pins s σ H _ us Q I r ⟨x, .ty T, .type k, .type T, _, rfl, .ty T, (kind_ty hk).1, kit_isa (kind_ty (K := X.K) hk).2 hT, q⟩
  · intro pins s σ H xs us Q I r h
    obtain ⟨x, p, T, U, k, rfl, hp, hk, hT, hU, q⟩ := h
    refine call_isiT pins s σ H _ us Q I r ⟨x, p, _, .type k, [.type T, .type U], _, rfl, hp, .cons (.ty T) (.cons (.ty U) .nil), (kind_ty hk).1, ?_, q⟩
    refine kitAny_cons (kit_isa (kind_ty (K := X.K) hk).2 hT) (fun hb => ?_) (fun hb => by rw [hb]; rfl)
    refine kitAny_cons (kit_isa (kind_ty (K := X.K) hk).2 hU) (fun hb2 => ?_) (fun hb2 => by rw [hb, hb2]; rfl)
    rw [hb, hb2]; rfl
/-- * of ints (one within 64 bits) and of a text and a small int -/
def rMulA : R2 := fun x y H Q => match x, y with
  | .int i, .int j => CMul i j ∧ Q (.int (i * j)) H
  | .str a, .int n => a.length ≤ 10 ∧ -10 ≤ n ∧ n ≤ 1000 ∧ Q (.str (PySem.Txt.mul a n)) H
  | _, _ => False
theorem op_mulA : OpR X (binaryOp .Mult) rMulA := by
  intro pins s σ H x y v u Q I rx ry h
  cases x <;> cases y <;> first | exact False.elim h | skip
  · exact op_mul pins s σ H _ _ v u Q I rx ry ⟨_, _, rfl, rfl, h.1, h.2⟩
  · obtain ⟨t, rfl⟩ := rx
    obtain ⟨t', rfl⟩ := ry
    obtain ⟨h1, h2, h3, q⟩ := h
    exact SB.mul (PyProof.Rows.mulOk_of 10 1000 h1 (by omega) (by omega) (by decide) (by decide)) fun t' k => ⟨.str _, H, I.tok k, ⟨t', rfl⟩, q⟩
theorem op_fdivA : OpR X (binaryOp .FloorDiv) (rI CDiv fun i j => .int (i / j)) := op_fdiv
theorem ip_of {op : Operator} {r : R2} (h : OpR X (inplaceOp op) r) : PIp X op r := h
theorem ip_fdiv : PIp X .FloorDiv (rI CDiv fun i j => .int (i / j)) := ip_of iop_fdiv
theorem slot_str_rpartition : PySem.Slot "str" "rpartition" "str.rpartition" := PySem.F.slot_str_rpartition
theorem type_str_rpartition : typeOf (.builtin "str.rpartition") = pure (.type "method_descriptor") := PySem.F.type_str_rpartition
theorem mt_rpartition : MtR X "str.rpartition" (fun x xs H Q => ∃ a b, x = .str a ∧ xs = [.str b] ∧ (b.length == 0) = false ∧ a.length ≤ sizeLine ∧
    ∀ p, H p = none → Q (.ref p) (upd H p (.tup [.str (PySem.Txt.rpartition a b).1, .str (PySem.Txt.rpartition a b).2.1, .str (PySem.Txt.rpartition a b).2.2]))) := by
  intro pins s σ H x xs v us Q I rx rs h
  obtain ⟨a, b, rfl, rfl, hb, hz, h⟩ := h
  obtain ⟨t, rfl⟩ := rx
  cases rs with
  | cons r1 rs =>
    cases rs
    obtain ⟨u, rfl⟩ := r1
    refine call_meets F.slot_str_rpartition (typeIs_str _ _ _) F.entry_str_rpartition (F.args_str_rpartition_2 _ _) (meets_str_rpartition a b t u hb hz) ?_
    unfold PySem.Txt.rpartition at h
    revert h
    cases PySem.Builtin.Str.lastOccurrence a b 0 a.length with
    | none => intro h; exact laid_parts I h
    | some i => intro h; exact laid_parts I h

/-! ### built-ins by named readings -/
def rLenA (K : PySem.W.Frag) : List V → Hp → VK → Prop := fun xs H Q => ∃ x n, xs = [x] ∧ LenV K x H n ∧ Q (.int n) H
theorem call_lenA : CallR X (.builtin "len") (rLenA X.K) := call_len
def rAbs : List V → Hp → VK → Prop := fun xs H Q => ∃ i, xs = [.int i] ∧ Q (.int (if i < 0 then -i else i)) H
theorem call_absA : CallR X (.builtin "abs") rAbs := call_abs
def rMaxA : List V → Hp → VK → Prop := fun xs H Q => ∃ i j, xs = [.int i, .int j] ∧ Q (.int (if j > i then j else i)) H
theorem call_max2A (hc : X.calm = true) : CallR X (.builtin "max") rMaxA := call_max2 hc
def rMinA : List V → Hp → VK → Prop := fun xs H Q => ∃ i j, xs = [.int i, .int j] ∧ Q (.int (if j < i then j else i)) H
theorem call_min2A (hc : X.calm = true) : CallR X (.builtin "min") rMinA := call_min2 hc
def rIntA : List V → Hp → VK → Prop := fun xs H Q => match xs with
  | [.int i] => Q (.int i) H
  | [.bl k] => Q (.int (if k then 1 else 0)) H
  | [.str a] => ∃ n, PySem.intText? a = some n ∧ a.length ≤ 640 ∧ Q (.int n) H
  | _ => False
theorem call_intA : CallR X (.type "int") rIntA := by
  intro pins s σ H xs us Q I r h
  unfold rIntA at h
  split at h
  · exact call_int1 pins s σ H _ us Q I r (.inl ⟨_, rfl, h⟩)
  · exact call_int1 pins s σ H _ us Q I r (.inr ⟨_, rfl, h⟩)
  · obtain ⟨n, h1, h2, q⟩ := h
    exact call_int_str pins s σ H _ us Q I r ⟨_, n, rfl, h1, h2, q⟩
  · exact h.elim
def rStrI : List V → Hp → VK → Prop := fun xs H Q => ∃ i, xs = [.int i] ∧ i.natAbs.log2 < 1920 ∧ Q (.str (toString i)) H
theorem call_strA : CallR X (.type "str") rStrI := call_str_int
def rListA (K : PySem.W.Frag) : List V → Hp → VK → Prop := fun xs H Q => ∃ p ys, xs = [.ref p] ∧ (SqL K H p ys ∨ SqT K H p ys) ∧ ∀ l, H l = none → Q (.ref l) (upd H l (.lst ys))
theorem call_listA : CallR X (.type "list") (rListA X.K) := call_list_of
def rTupA (K : PySem.W.Frag) : List V → Hp → VK → Prop := fun xs H Q => ∃ p ys, xs = [.ref p] ∧ ((SqL K H p ys ∧ ∀ l, H l = none → Q (.ref l) (upd H l (.tup ys))) ∨ (SqT K H p ys ∧ Q (.ref p) H))
theorem call_tupA : CallR X (.type "tuple") (rTupA X.K) := call_tuple_of
def rDivmod : List V → Hp → VK → Prop := fun xs H Q => ∃ i j, xs = [.int i, .int j] ∧ CDiv i j ∧ ∀ p, H p = none → Q (.ref p) (upd H p (.tup [.int (i / j), .int (i % j)]))
theorem call_divmodA : CallR X (.builtin "divmod") rDivmod := call_divmod
def rIsiAll (K : PySem.W.Frag) : List V → Hp → VK → Prop := fun xs H Q => rIsiA K xs H Q ∨ rIsi2 K xs H Q
theorem call_isiAll : CallR X (.builtin "isinstance") (rIsiAll X.K) := call_isiA
/-! methods of texts -/
def rSplit : V → List V → Hp → VK → Prop := fun x xs H Q => ∃ a b, x = .str a ∧ xs = [.str b] ∧ (b.length == 0) = false ∧ a.length + 2 ≤ sizeLine ∧ rNewStrs (PySem.Txt.split a b) H Q
theorem mt_splitA : MtR X "str.split" rSplit := mt_split
def rPart : V → List V → Hp → VK → Prop := fun x xs H Q => ∃ a b, x = .str a ∧ xs = [.str b] ∧ (b.length == 0) = false ∧ a.length ≤ sizeLine ∧
    ∀ p, H p = none → Q (.ref p) (upd H p (.tup [.str (PySem.Txt.partition a b).1, .str (PySem.Txt.partition a b).2.1, .str (PySem.Txt.partition a b).2.2]))
theorem mt_partitionA : MtR X "str.partition" rPart := mt_partition
def rRpart : V → List V → Hp → VK → Prop := fun x xs H Q => ∃ a b, x = .str a ∧ xs = [.str b] ∧ (b.length == 0) = false ∧ a.length ≤ sizeLine ∧
    ∀ p, H p = none → Q (.ref p) (upd H p (.tup [.str (PySem.Txt.rpartition a b).1, .str (PySem.Txt.rpartition a b).2.1, .str (PySem.Txt.rpartition a b).2.2]))
theorem mt_rpartitionA : MtR X "str.rpartition" rRpart := mt_rpartition
def rJoin (K : PySem.W.Frag) : V → List V → Hp → VK → Prop := fun x xs H Q => ∃ a p, ∃ ys : List Str, x = .str a ∧ xs = [.ref p] ∧ (SqL K H p (ys.map V.str) ∨ SqT K H p (ys.map V.str)) ∧
    (ys.map (·.length)).sum + ys.length * a.length ≤ 16777216 ∧ Q (.str (PySem.Txt.join a ys)) H
theorem mt_joinA : MtR X "str.join" (rJoin X.K) := mt_join
def rStarts : V → List V → Hp → VK → Prop := fun x xs H Q => ∃ a b, x = .str a ∧ xs = [.str b] ∧ Q (.bl (PySem.Txt.startswith a b)) H
theorem mt_startsA : MtR X "str.startswith" rStarts := mt_startswith
def rLstrip : V → List V → Hp → VK → Prop := fun x xs H Q => ∃ a b, x = .str a ∧ xs = [.str b] ∧ a.length ≤ sizeLine ∧ Q (.str (PySem.Txt.lstripChars a b)) H
theorem mt_lstripA : MtR X "str.lstrip" rLstrip := mt_lstripChars
end

/-! ### steps: what is to be shown of a reading, by its head -/
section
variable {K : PySem.W.Frag} {σ : L2.St} {H : Hp} {Q : VK} {QB : Bool → Hp → Prop} {QA : List V → Hp → Prop} {D : Ends} {t u : TS} {te ta tb tc : TE} {tt tu : TT} {tA : TA} {g : TG} {i j : Nat} {v x y : V} {r r' : R2} {n b c : L2.St → Hp → Prop} {rt : VK}
theorem w_seq (h : t { D with nx := u D } σ H) : tSeq t u D σ H := h
theorem w_next (h : D.nx σ H) : tNext D σ H := h
theorem w_nx (h : n σ H) : (Ends.mk n rt b c).nx σ H := h
theorem w_rt (h : rt v H) : (Ends.mk n rt b c).rt v H := h
theorem w_bk (h : b σ H) : (Ends.mk n rt b c).bk σ H := h
theorem w_ct (h : c σ H) : (Ends.mk n rt b c).ct σ H := h
theorem w_asg (h : te σ H (fun x H1 => D.nx (σ.set i (some x)) H1)) : tAsg te (gName i) D σ H := h
theorem w_asgG (h : te σ H (fun x H1 => g x σ H1 D.nx)) : tAsg te g D σ H := h
theorem w_gname {Q : L2.St → Hp → Prop} (h : Q (σ.set i (some v)) H) : gName i v σ H Q := h
theorem w_ret (h : te σ H D.rt) : tRet te D σ H := h
theorem w_retN (h : D.rt .non H) : tRetN D σ H := h
theorem w_drop (h : te σ H (fun _ H1 => D.nx σ H1)) : tDrop te D σ H := h
theorem w_var (h : σ[i]? = some (some v)) (q : Q v H) : tVar i σ H Q := ⟨v, h, q⟩
theorem w_c (q : Q v H) : tC v σ H Q := q
theorem w_op (h : ta σ H (fun x H1 => tb σ H1 (fun y H2 => r x y H2 Q))) : tOp r ta tb σ H Q := h
theorem w_un {r : V → Hp → VK → Prop} (h : ta σ H (fun x H1 => r x H1 Q)) : tUn r ta σ H Q := h
theorem w_test (h : te σ H (fun x H' => ∃ k, x = .bl k ∧ QB k H')) : tTest te σ H QB := h
theorem w_B (h : te σ H (fun x H' => ∃ k, x = .bl k ∧ QB k H')) : tB te σ H QB := h
theorem w_bl {k : Bool} {R : Bool → Prop} (h : R k) : ∃ k', V.bl k = V.bl k' ∧ R k' := ⟨k, rfl, h⟩
theorem w_ifS (h : tt σ H (fun b H1 => if b = true then t D σ H1 else u D σ H1)) : tIfS tt t u D σ H := h
theorem w_if (h : tt σ H (fun c H1 => if c = true then ta σ H1 Q else tb σ H1 Q)) : tIf tt ta tb σ H Q := h
theorem w_and (h : tt σ H (fun c H1 => if c = true then tu σ H1 QB else QB false H1)) : tAnd tt tu σ H QB := h
theorem w_or (h : tt σ H (fun c H1 => if c = true then QB true H1 else tu σ H1 QB)) : tOr tt tu σ H QB := h
theorem w_not (h : tt σ H (fun c H1 => QB (!c) H1)) : tNot tt σ H QB := h
theorem w_andV (h : ta σ H (fun x H1 => ∃ c, x = .bl c ∧ if c = true then tb σ H1 Q else Q (.bl false) H1)) : tAndV ta tb σ H Q := h
theorem w_orV (h : ta σ H (fun x H1 => ∃ c, x = .bl c ∧ if c = true then Q (.bl true) H1 else tb σ H1 Q)) : tOrV ta tb σ H Q := h
theorem w_notV (h : ta σ H (fun x H1 => ∃ c, x = .bl c ∧ Q (.bl (!c)) H1)) : tNotV ta σ H Q := h
theorem w_chain (h : ta σ H (fun x H1 => tb σ H1 (fun y H2 => r x y H2 (fun z H3 => ∃ k, z = .bl k ∧ (if k = true then tc σ H3 (fun w' H4 => r' y w' H4 Q) else Q (.bl false) H3))))) : tChain r r' ta tb tc σ H Q := h
theorem w_nil (h : QA [] H) : tNil σ H QA := h
theorem w_cons (h : ta σ H (fun x H1 => tA σ H1 (fun xs H2 => QA (x :: xs) H2))) : tCons ta tA σ H QA := h
def kTup (Q : VK) : List V → Hp → Prop := fun xs H1 => xs.length ≤ sizeLine ∧ ∀ p, H1 p = none → Q (.ref p) (upd H1 p (.tup xs))
def kLst (Q : VK) : List V → Hp → Prop := fun xs H1 => xs.length ≤ sizeLine ∧ ∀ p, H1 p = none → Q (.ref p) (upd H1 p (.lst xs))
theorem w_tup (h : tA σ H (kTup Q)) : tTup tA σ H Q := h
theorem w_lst (h : tA σ H (kLst Q)) : tLst tA σ H Q := h
theorem w_kTup {xs : List V} (h : ∀ p H', Gr [] H H' → H p = none → H' p = some (.tup xs) → Q (.ref p) H') (hz : xs.length ≤ 1000) : kTup Q xs H := ⟨sz_of (by omega), new_obj h⟩
theorem w_kLst {xs : List V} (h : ∀ p H', Gr [] H H' → H p = none → H' p = some (.lst xs) → Q (.ref p) H') (hz : xs.length ≤ 1000) : kLst Q xs H := ⟨sz_of (by omega), new_obj h⟩
theorem w_call {sp : Sp} {dvs : List V} {E : XK} (h : tA σ H (fun vs H1 => sp (vs ++ dvs) H1 Q E)) : tCall sp dvs E tA σ H Q := h
theorem w_cb {r : List V → Hp → VK → Prop} (h : tA σ H (fun vs H1 => r vs H1 Q)) : tCB r tA σ H Q := h
theorem w_m1 {r : V → List V → Hp → VK → Prop} (h : ta σ H (fun x H1 => (∃ a, x = .str a) ∧ tb σ H1 (fun y H2 => r x [y] H2 Q))) : tM1 r ta tb σ H Q := h
theorem w_isstr {s : Str} {P : Prop} (h : P) : (∃ a, V.str s = .str a) ∧ P := ⟨⟨s, rfl⟩, h⟩
theorem w_bm {T : String} {r : V → List V → Hp → VK → Prop} (h : ta σ H (fun x H1 => tyV K T x H1 ∧ tA σ H1 (fun xs H2 => r x xs H2 Q))) : tBM K T r ta tA σ H Q := h
theorem w_bm0 {T : String} {r : V → List V → Hp → VK → Prop} (h : ta σ H (fun x H1 => tyV K T x H1 ∧ r x [] H1 Q)) : tBM0 K T r ta σ H Q := h
theorem w_tyL {l : Addr} {xs : List V} {P : Prop} (hl : H l = some (.lst xs)) (h : P) : tyV K "list" (.ref l) H ∧ P := ⟨Or.inl ⟨rfl, _, Or.inl (Or.inl hl)⟩, h⟩
theorem w_sl {r : V → Option Int → Option Int → Hp → VK → Prop} {tl th : TO} (h : ta σ H (fun x H1 => tl σ H1 (fun lo H2 => th σ H2 (fun hi H3 => r x lo hi H3 Q)))) : tSl r ta tl th σ H Q := h
theorem w_noPart {QO : Option Int → Hp → Prop} (h : QO none H) : tNoPart σ H QO := h
theorem w_part {QO : Option Int → Hp → Prop} (h : ta σ H (fun x H1 => ∃ i, x = .int i ∧ QO (some i) H1)) : tPart ta σ H QO := h
theorem w_int {R : Int → Prop} {k : Int} (h : R k) : ∃ i, V.int k = .int i ∧ R i := ⟨k, rfl, h⟩
theorem w_aug {ti : TIp} (hx : σ[i]? = some (some x)) (h : te σ H (fun y H1 => ti x y H1 (fun z H2 => D.nx (σ.set i (some z)) H2))) : tAug i te ti D σ H := ⟨x, hx, h⟩
theorem w_par (h : tA σ H (fun vs H1 => ∃ v w, vs = [v, w] ∧ D.nx ((σ.set i (some v)).set j (some w)) H1)) : tPar i j tA D σ H := h
theorem w_par2 {P : V → V → Prop} (h : P x y) : ∃ v w, [x, y] = [v, w] ∧ P v w := ⟨x, y, rfl, h⟩
theorem w_isN (h : ta σ H (fun x H1 => Q (.bl (decide (x = .non))) H1)) : tIsN ta σ H Q := h
theorem w_notN (h : ta σ H (fun x H1 => Q (.bl (!decide (x = .non))) H1)) : tNotN ta σ H Q := h
def kFor (g : TG) (tb : TS) (D : Ends) (σ : L2.St) : It → Hp → Prop := fun J H1 => ∃ W : Nat → Nat → L2.St → Hp → Prop, (∃ m, W 0 m σ H1) ∧ ∀ i m σ H, W i m σ H →
  (J.stop i H ∧ D.nx σ H) ∨ (J.go i H ∧ ∃ N : L2.St → Hp → Prop, (∀ σ' H', N σ' H' → ∃ m', m' < m ∧ W (i + 1) m' σ' H') ∧ ∀ x H', J.yld i H x H' → g x σ H' fun σ2 H2 => tb { D with nx := N, ct := N, bk := D.nx } σ2 H2)
theorem w_for {wi : TI} {tb : TS} (h : wi σ H (kFor g tb D σ)) : tFor wi g tb D σ H := h
def kLc (g : TG) (tt : TT) (te : TE) (vs : List Nat) (σ : L2.St) (Q : VK) : It → Hp → Prop := fun J H1 => ∀ D, H1 D = none → ∃ W : Nat → Nat → Hp → Prop, (∃ m, W 0 m (upd H1 D (.lst []))) ∧ ∀ i m H, W i m H →
  (J.stop i H ∧ Q (.ref D) H) ∨ (J.go i H ∧ ∃ Nx : Hp → Prop, (∀ H', Nx H' → ∃ m', m' < m ∧ W (i + 1) m' H') ∧ ∀ x H', J.yld i H x H' → g x (wipe σ vs) H' fun σ2 H2 => wipe σ2 vs = wipe σ vs ∧ tt σ2 H2 fun b H3 =>
    if b = true then te σ2 H3 fun y H4 => ∃ acc, H4 D = some (.lst acc) ∧ acc.length < sizeLine ∧ Nx (upd H4 D (.lst (acc ++ [y]))) else Nx H3)
theorem w_lc {wi : TI} {vs : List Nat} (h : wi σ H (kLc g tt te vs σ Q)) : tLc wi g tt te vs σ H Q := h
theorem w_iL {R : It → Hp → Prop} (h : te σ H (fun x H1 => ∃ a, x = .ref a ∧ (∃ xs, SqL K H1 a xs) ∧ R (Itl K a) H1)) : iAny K te σ H R := Or.inl h
theorem w_iT {R : It → Hp → Prop} (h : te σ H (fun x H1 => ∃ a, x = .ref a ∧ (∃ xs, SqT K H1 a xs) ∧ R (Itt K a) H1)) : iAny K te σ H R := Or.inr (Or.inl h)
theorem w_iS {R : It → Hp → Prop} (h : te σ H (fun x H1 => ∃ z, x = .str z ∧ R (Its z) H1)) : iAny K te σ H R := Or.inr (Or.inr h)
theorem w_iR {R : It → Hp → Prop} (h : tA σ H (fun vs H1 => ∃ j : Int, vs = [.int j] ∧ -(2 ^ 62) ≤ j ∧ j < 2 ^ 62 ∧ R (Itr 0 j.toNat) H1)) : iRng1 tA σ H R := h
theorem w_iE {R : It → Hp → Prop} (h : tA σ H (fun vs H1 => ∃ a xs, vs = [.ref a] ∧ SqL K H1 a xs ∧ R (Ite K a) H1)) : iEnum K tA σ H R := h
theorem w_yes (h : QB true H) : tYes σ H QB := h
/-! the values' rules -/
theorem w_addI {a b : Int} (q : Q (.int (a + b)) H) : rAddA K (.int a) (.int b) H Q := q
theorem w_addS {a b : Str} (hz : a.length + b.length ≤ 16777216) (q : Q (.str (a ++ b)) H) : rAddA K (.str a) (.str b) H Q := ⟨sz_of hz, q⟩
theorem w_addL {a b : Addr} {xs zs : List V} (h1 : H a = some (.lst xs)) (h2 : H b = some (.lst zs)) (hz : xs.length + zs.length ≤ 16777216) (q : ∀ p H', Gr [] H H' → H p = none → H' p = some (.lst (xs ++ zs)) → Q (.ref p) H') : rAddA K (.ref a) (.ref b) H Q :=
  Or.inl ⟨a, b, xs, zs, rfl, rfl, h1, h2, sz_of hz, new_obj q⟩
theorem w_addT {a b : Addr} {xs zs : List V} (h1 : SqT K H a xs) (h2 : SqT K H b zs) (n1 : xs ≠ []) (n2 : zs ≠ []) (hz : xs.length + zs.length ≤ 16777216) (q : ∀ p H', Gr [] H H' → H p = none → H' p = some (.tup (xs ++ zs)) → Q (.ref p) H') : rAddA K (.ref a) (.ref b) H Q :=
  Or.inr ⟨a, b, xs, zs, rfl, rfl, h1, h2, n1, sz_of hz, fun e => absurd e n2, fun _ => new_obj q⟩
theorem w_rI0 {g : Int → Int → V} {a b : Int} (q : Q (g a b) H) : rI0 g (.int a) (.int b) H Q := ⟨a, b, rfl, rfl, q⟩
theorem w_rI {C : Int → Int → Prop} {g : Int → Int → V} {a b : Int} (hc : C a b) (q : Q (g a b) H) : rI C g (.int a) (.int b) H Q := ⟨a, b, rfl, rfl, hc, q⟩
theorem w_mulI {a b : Int} (hc : CMul a b) (q : Q (.int (a * b)) H) : rMulA (.int a) (.int b) H Q := ⟨hc, q⟩
theorem w_mulS {a : Str} {n : Int} (h1 : a.length ≤ 10) (h2 : -10 ≤ n ∧ n ≤ 1000) (q : Q (.str (PySem.Txt.mul a n)) H) : rMulA (.str a) (.int n) H Q := ⟨h1, h2.1, h2.2, q⟩
theorem w_eqS (h : scal x y = true) (q : Q (.bl (decide (x = y))) H) : rEqA K x y H Q := Or.inl ⟨h, q⟩
theorem w_neS (h : scal x y = true) (q : Q (.bl (!decide (x = y))) H) : rNeA K x y H Q := Or.inl ⟨h, q⟩
theorem w_leI {a b : Int} (q : Q (.bl (decide (a ≤ b))) H) : rLeA (.int a) (.int b) H Q := q
theorem w_leS {a b : Str} (q : Q (.bl (!decide (b.cps.toList < a.cps.toList))) H) : rLeA (.str a) (.str b) H Q := q
theorem w_inS {k : Nat} {z : Str} (q : Q (.bl (decide (k ∈ z.cps.toList))) H) : rInA K (.str ⟨#[k]⟩) (.str z) H Q := ⟨k, rfl, q⟩
theorem w_ninS {k : Nat} {z : Str} (q : Q (.bl (!decide (k ∈ z.cps.toList))) H) : rNinA K (.str ⟨#[k]⟩) (.str z) H Q := ⟨k, rfl, q⟩
theorem w_inQ {p : Addr} {xs : List V} (h : SqL K H p xs ∨ SqT K H p xs) (hx : flatV x = true) (ha : xs.all flatV = true) (q : Q (.bl (inV x xs)) H) : rInA K x (.ref p) H Q := by
  have e : rIn K false x (.ref p) H Q := ⟨p, xs, rfl, h, hx, ha, q⟩
  cases x <;> exact e
theorem w_ninQ {p : Addr} {xs : List V} (h : SqL K H p xs ∨ SqT K H p xs) (hx : flatV x = true) (ha : xs.all flatV = true) (q : Q (.bl (!inV x xs)) H) : rNinA K x (.ref p) H Q := by
  have e : rIn K true x (.ref p) H Q := ⟨p, xs, rfl, h, hx, ha, q⟩
  cases x <;> exact e
theorem w_ixL {p : Addr} {xs : List V} {k : Int} (h : SqL K H p xs) (ha : atI xs k = some v) (q : Q v H) : rIxA K (.ref p) (.int k) H Q := Or.inl ⟨p, xs, k, v, rfl, rfl, h, ha, q⟩
theorem w_ixT {p : Addr} {xs : List V} {k : Int} (h : SqT K H p xs) (ha : atI xs k = some v) (q : Q v H) : rIxA K (.ref p) (.int k) H Q := Or.inr (Or.inl ⟨p, xs, k, v, rfl, rfl, h, ha, q⟩)
theorem w_ixS {z : Str} {k : Int} {d : Nat} (hz : z.length ≤ 16777216) (ha : atI z.cps.toList k = some d) (q : Q (.str ⟨#[d]⟩) H) : rIxA K (.str z) (.int k) H Q := Or.inr (Or.inr ⟨z, k, d, rfl, rfl, sz_of hz, ha, q⟩)
theorem w_slS {z : Str} {lo hi : Option Int} (hz : z.length ≤ 16777216) (q : Q (.str (cutS z lo hi)) H) : rSlA K (.str z) lo hi H Q := Or.inl ⟨z, rfl, sz_of hz, q⟩
theorem w_slL {p : Addr} {xs : List V} {lo hi : Option Int} (h : SqL K H p xs) (q : ∀ p H', Gr [] H H' → H p = none → H' p = some (.lst (cutV xs lo hi)) → Q (.ref p) H') : rSlA K (.ref p) lo hi H Q := Or.inr (Or.inl ⟨p, xs, rfl, h, new_obj q⟩)
theorem w_lenS {z : Str} (hz : z.length ≤ 16777216) (q : Q (.int z.length) H) : rLenA K [.str z] H Q := ⟨.str z, z.length, rfl, ⟨sz_of hz, rfl⟩, q⟩
theorem w_lenL {p : Addr} {xs : List V} (h : SqL K H p xs) (q : Q (.int xs.length) H) : rLenA K [.ref p] H Q := ⟨.ref p, xs.length, rfl, .inl ⟨xs, h, rfl⟩, q⟩
theorem w_lenT {p : Addr} {xs : List V} (h : SqT K H p xs) (q : Q (.int xs.length) H) : rLenA K [.ref p] H Q := ⟨.ref p, xs.length, rfl, .inr ⟨xs, h, rfl⟩, q⟩
theorem w_abs {a : Int} (q : Q (.int (if a < 0 then -a else a)) H) : rAbs [.int a] H Q := ⟨a, rfl, q⟩
theorem w_max2 {a b : Int} (q : Q (.int (if b > a then b else a)) H) : rMaxA [.int a, .int b] H Q := ⟨a, b, rfl, q⟩
theorem w_min2 {a b : Int} (q : Q (.int (if b < a then b else a)) H) : rMinA [.int a, .int b] H Q := ⟨a, b, rfl, q⟩
theorem w_intI {a : Int} (q : Q (.int a) H) : rIntA [.int a] H Q := q
theorem w_intB {a : Bool} (q : Q (.int (if a then 1 else 0)) H) : rIntA [.bl a] H Q := q
theorem w_intS {a : Str} {k : Int} (h1 : PySem.intText? a = some k) (h2 : a.length ≤ 640) (q : Q (.int k) H) : rIntA [.str a] H Q := ⟨k, h1, h2, q⟩
theorem w_strI {a : Int} (h : a.natAbs.log2 < 1920) (q : Q (.str (toString a)) H) : rStrI [.int a] H Q := ⟨a, rfl, h, q⟩
theorem w_isi {T k : String} (hk : kindOf H x = some k) (hT : T = "int" ∨ T = "str" ∨ T = "bool" ∨ T = "list" ∨ T = "tuple") (q : Q (.bl (isa k T)) H) : rIsiAll K [x, .ty T] H Q := Or.inl ⟨x, T, k, rfl, hk, hT, q⟩
theorem w_isi2 {p : Addr} {T U k : String} (hp : H p = some (.tup [.ty T, .ty U])) (hk : kindOf H x = some k) (hT : T = "int" ∨ T = "str" ∨ T = "bool" ∨ T = "list" ∨ T = "tuple") (hU : U = "int" ∨ U = "str" ∨ U = "bool" ∨ U = "list" ∨ U = "tuple")
    (q : Q (.bl (isa k T || isa k U)) H) : rIsiAll K [x, .ref p] H Q := Or.inr ⟨x, p, T, U, k, rfl, hp, hk, hT, hU, q⟩
theorem w_all {p : Addr} {bs : List Bool} (h : SqL K H p (bs.map V.bl)) (q : Q (.bl (bs.all id)) H) : rAll K [.ref p] H Q := ⟨p, bs, rfl, h, q⟩
theorem w_any {p : Addr} {bs : List Bool} (h : SqL K H p (bs.map V.bl)) (q : Q (.bl (bs.any id)) H) : rAny K [.ref p] H Q := ⟨p, bs, rfl, h, q⟩
theorem w_app {l : Addr} {xs : List V} (hl : H l = some (.lst xs)) (hz : xs.length < 16777216) (q : ∀ H', Gr [l] H H' → H' l = some (.lst (xs ++ [y])) → Q .non H') : rAppend (.ref l) [y] H Q := ⟨l, xs, y, rfl, rfl, hl, sz_lt hz, put_obj (Q := Q .non) hl rfl q⟩
theorem w_ext {l b : Addr} {xs zs : List V} (hl : H l = some (.lst xs)) (hb : H b = some (.lst zs)) (hz : xs.length + zs.length ≤ 16777216) (q : ∀ H', Gr [l] H H' → H' l = some (.lst (xs ++ zs)) → Q .non H') : rExtend (.ref l) [.ref b] H Q := ⟨l, b, xs, zs, rfl, rfl, hl, hb, sz_of hz, put_obj (Q := Q .non) hl rfl q⟩
theorem w_rev {l : Addr} {xs : List V} (hl : H l = some (.lst xs)) (q : ∀ H', Gr [l] H H' → H' l = some (.lst xs.reverse) → Q .non H') : rReverse (.ref l) [] H Q := ⟨l, xs, rfl, rfl, hl, put_obj (Q := Q .non) hl rfl q⟩
theorem w_split {a b : Str} (hb : (b.length == 0) = false) (hz : a.length + 2 ≤ 16777216) (q : ∀ p H', Gr [] H H' → H p = none → H' p = some (.lst ((PySem.Txt.split a b).map V.str)) → Q (.ref p) H') : rSplit (.str a) [.str b] H Q := ⟨a, b, rfl, rfl, hb, sz_of hz, new_obj q⟩
theorem w_part1 {a b : Str} (hb : (b.length == 0) = false) (hz : a.length ≤ 16777216) (q : ∀ p H', Gr [] H H' → H p = none → H' p = some (.tup [.str (PySem.Txt.partition a b).1, .str (PySem.Txt.partition a b).2.1, .str (PySem.Txt.partition a b).2.2]) → Q (.ref p) H') : rPart (.str a) [.str b] H Q := ⟨a, b, rfl, rfl, hb, sz_of hz, new_obj q⟩
theorem w_rpart1 {a b : Str} (hb : (b.length == 0) = false) (hz : a.length ≤ 16777216) (q : ∀ p H', Gr [] H H' → H p = none → H' p = some (.tup [.str (PySem.Txt.rpartition a b).1, .str (PySem.Txt.rpartition a b).2.1, .str (PySem.Txt.rpartition a b).2.2]) → Q (.ref p) H') : rRpart (.str a) [.str b] H Q := ⟨a, b, rfl, rfl, hb, sz_of hz, new_obj q⟩
theorem w_join {a : Str} {p : Addr} {ys : List Str} (h : SqL K H p (ys.map V.str)) (hz : (ys.map (·.length)).sum + ys.length * a.length ≤ 16777216) (q : Q (.str (PySem.Txt.join a ys)) H) : rJoin K (.str a) [.ref p] H Q := ⟨a, p, ys, rfl, rfl, .inl h, hz, q⟩
theorem w_starts {a b : Str} (q : Q (.bl (PySem.Txt.startswith a b)) H) : rStarts (.str a) [.str b] H Q := ⟨a, b, rfl, rfl, q⟩
theorem w_lstrip {a b : Str} (hz : a.length ≤ 16777216) (q : Q (.str (PySem.Txt.lstripChars a b)) H) : rLstrip (.str a) [.str b] H Q := ⟨a, b, rfl, rfl, sz_of hz, q⟩
theorem w_ipI {a b : Int} (q : Q (.int (a + b)) H) : ipAdd (.int a) (.int b) H Q := q
theorem w_ipS {a b : Str} (hz : a.length + b.length ≤ 16777216) (q : Q (.str (a ++ b)) H) : ipAdd (.str a) (.str b) H Q := ⟨sz_of hz, q⟩
theorem w_list {p : Addr} {ys : List V} (h : SqL K H p ys ∨ SqT K H p ys) (q : ∀ p H', Gr [] H H' → H p = none → H' p = some (.lst ys) → Q (.ref p) H') : rListA K [.ref p] H Q := ⟨p, ys, rfl, h, new_obj q⟩
theorem w_tuple {p : Addr} {ys : List V} (h : SqL K H p ys) (q : ∀ p H', Gr [] H H' → H p = none → H' p = some (.tup ys) → Q (.ref p) H') : rTupA K [.ref p] H Q := ⟨p, ys, rfl, .inl ⟨h, new_obj q⟩⟩
theorem w_divmod {a b : Int} (h : CDiv a b) (q : ∀ p H', Gr [] H H' → H p = none → H' p = some (.tup [.int (a / b), .int (a % b)]) → Q (.ref p) H') : rDivmod [.int a, .int b] H Q := ⟨a, b, rfl, h, new_obj q⟩
/-- a tuple taken apart -/
theorem w_gtup {n : Nat} {t : TGs} {a : Addr} {xs : List V} {Q : L2.St → Hp → Prop} (h : SqT K H a xs) (hn : xs.length = n) (q : t xs σ H Q) : gTup K n t (.ref a) σ H Q := ⟨a, xs, rfl, h, hn, q⟩
theorem w_gcons {t : TG} {u : TGs} {xs : List V} {Q : L2.St → Hp → Prop} (h : t x σ H (fun σ' H' => u xs σ' H' Q)) : gCons t u (x :: xs) σ H Q := ⟨x, xs, rfl, h⟩
theorem w_gnil {Q : L2.St → Hp → Prop} (h : Q σ H) : gNil [] σ H Q := ⟨rfl, h⟩
theorem w_cut {Mid : L2.St → Hp → Prop} (h : t { D with nx := Mid } σ H) (k : ∀ σ' H', Mid σ' H' → u D σ' H') : Evl.tCut t u D σ H := ⟨Mid, h, k⟩
theorem iteB {b : Bool} {A B : Prop} (h1 : b = true → A) (h2 : b = false → B) : if b = true then A else B := by
  cases b with
  | true => exact (if_pos rfl).mpr (h1 rfl)
  | false => exact (if_neg Bool.false_ne_true).mpr (h2 rfl)
end

/-! ### the same, the written part told -/
section
variable {X : Cx} {K : PySem.W.Frag} {e a b o : Expr} {es : List Expr} {te ta tb to : TE} {tA : TA} {pos apos cpos : Pos}
theorem op_addK (h : X.K = K) : OpR X (binaryOp .Add) (rAddA K) := by subst h; exact op_addA
theorem op_eqK (h : X.K = K) (hu : X.A.units + 64 < cLine) : OpR X (compareOp .Eq) (rEqA K) := by subst h; exact op_eqA hu
theorem op_neK (h : X.K = K) (hu : X.A.units + 64 < cLine) : OpR X (compareOp .NotEq) (rNeA K) := by subst h; exact op_neA hu
theorem op_inK (h : X.K = K) : OpR X (compareOp .In) (rInA K) := by subst h; exact op_inA
theorem op_ninK (h : X.K = K) : OpR X (compareOp .NotIn) (rNinA K) := by subst h; exact op_ninA
theorem ix_anyK (h : X.K = K) : IxR X (rIxA K) := by subst h; exact ix_any
theorem sl_anyK (h : X.K = K) : SlR X (rSlA K) := by subst h; exact sl_any
theorem pi_anyK {tg : Expr} (h : X.K = K) (he : PE X e te) : PI X tg e (iAny K te) := by subst h; exact pi_any he
theorem call_lenK (h : X.K = K) : CallR X (.builtin "len") (rLenA K) := by subst h; exact call_lenA
theorem call_isiK' (h : X.K = K) : CallR X (.builtin "isinstance") (rIsiAll K) := by subst h; exact call_isiAll
theorem call_listK (h : X.K = K) : CallR X (.type "list") (rListA K) := by subst h; exact call_listA
theorem call_tupK (h : X.K = K) : CallR X (.type "tuple") (rTupA K) := by subst h; exact call_tupA
theorem cr_allK (h : X.K = K) (hc : X.calm = true) : CallR X (.builtin "all") (rAll K) := by subst h; exact cr_all hc
theorem cr_anyK (h : X.K = K) (hc : X.calm = true) : CallR X (.builtin "any") (rAny K) := by subst h; exact cr_any hc
theorem cr_sumK (h : X.K = K) (hc : X.calm = true) : CallR X (.builtin "sum") (rSum K) := by subst h; exact cr_sum hc
theorem mt_joinK (h : X.K = K) : MtR X "str.join" (rJoin K) := by subst h; exact mt_joinA
/-- the reading of a rule over X.K, told over K -/
theorem peK {f : PySem.W.Frag → TE} (h : X.K = K) (p : PE X e (f X.K)) : PE X e (f K) := by subst h; exact p
theorem pgK {f : PySem.W.Frag → TG} (h : X.K = K) (p : PG X e (f X.K)) : PG X e (f K) := by subst h; exact p
theorem psK {st : Stmt} {f : PySem.W.Frag → TS} (h : X.K = K) (p : PS X st (f X.K)) : PS X st (f K) := by subst h; exact p
theorem piK {tg : Expr} {f : PySem.W.Frag → TI} (h : X.K = K) (p : PI X tg e (f X.K)) : PI X tg e (f K) := by subst h; exact p
theorem ptK {f : PySem.W.Frag → TT} (h : X.K = K) (p : PT X e (f X.K)) : PT X e (f K) := by subst h; exact p
theorem pe_fldK {f : Str} (h : X.K = K) (he : PE X e te) (hb : attributeBase e f X.env (eval e X.env) = eval e X.env) : PE X (.Attribute e f pos) (tFld K te f) := peK (f := fun K => tFld K te f) h (pe_fld he hb)
theorem pg_tupK {k n : Nat} {t : TGs} (h : X.K = K) (hc : X.calm = true) (hp : PGs X es t) (hn : (assignEach es X.env).length = n := by rfl) (hst : (assignEach es X.env).findIdx? (·.1) = none := by rfl) : PG X (.Tuple es k pos) (gTup K n t) :=
  pgK (f := fun K => gTup K n t) h (pg_tup hc hp hn hst)
theorem pe_bmK {T id : String} {name : Str} {r : V → List V → Hp → VK → Prop} (h : X.K = K) (pa : PlainAttrs T) (slot : PySem.Slot T name id) (hty : typeOf (.builtin id) = pure (.type "method_descriptor")) (hm : MtR X id r) (ho : PE X o to) (ha : PA X (e :: es) tA)
    (hbase : attributeBase o name X.env (eval o X.env) = eval o X.env := by rfl)
    (hfew : ((backTo cpos (starEach (e :: es) X.env)).all (fun x => !x.1) && (backToKw cpos (keywordEach [] X.env)).all (fun x => x.1.isSome)
      && decide ((e :: es).length + ([] : List Keyword).length + (if ([] : List Keyword).isEmpty then 0 else 1) < 30)) = true := by rfl)
    (hline : (apos.endLine == cpos.line) = true := by rfl) (hs : starEach (e :: es) X.env = (false, eval e X.env) :: starEach es X.env := by rfl) (hplain : (backTo cpos (starEach es X.env)).any (·.1) = false := by rfl) :
    PE X (.Call (.Attribute o name apos) (e :: es) [] cpos) (tBM K T r to tA) := peK (f := fun K => tBM K T r to tA) h (pe_bm pa slot hty hm ho ha hbase hfew hline hs hplain)
end

/-! isinstance, case by case -/
section
variable {K : PySem.W.Frag} {H : Hp} {Q : VK}
theorem isi_N_str (q : Q (.bl false) H) : rIsiAll K [.non, .ty "str"] H Q := w_isi (k := "NoneType") rfl (by simp) (by rw [show isa "NoneType" "str" = false by decide +kernel]; exact q)
theorem isi_N_int (q : Q (.bl false) H) : rIsiAll K [.non, .ty "int"] H Q := w_isi (k := "NoneType") rfl (by simp) (by rw [show isa "NoneType" "int" = false by decide +kernel]; exact q)
theorem isi_N_bool (q : Q (.bl false) H) : rIsiAll K [.non, .ty "bool"] H Q := w_isi (k := "NoneType") rfl (by simp) (by rw [show isa "NoneType" "bool" = false by decide +kernel]; exact q)
theorem isi_N_list (q : Q (.bl false) H) : rIsiAll K [.non, .ty "list"] H Q := w_isi (k := "NoneType") rfl (by simp) (by rw [show isa "NoneType" "list" = false by decide +kernel]; exact q)
theorem isi_N_tuple (q : Q (.bl false) H) : rIsiAll K [.non, .ty "tuple"] H Q := w_isi (k := "NoneType") rfl (by simp) (by rw [show isa "NoneType" "tuple" = false by decide +kernel]; exact q)
theorem isi_N_lt {p : Addr} (hp : H p = some (.tup [.ty "list", .ty "tuple"])) (q : Q (.bl false) H) : rIsiAll K [.non, .ref p] H Q := w_isi2 (k := "NoneType") hp rfl (by simp) (by simp) (by rw [show (isa "NoneType" "list" || isa "NoneType" "tuple") = false by decide +kernel]; exact q)
theorem isi_B_str {b : Bool} (q : Q (.bl false) H) : rIsiAll K [(.bl b), .ty "str"] H Q := w_isi (k := "bool") rfl (by simp) (by rw [show isa "bool" "str" = false by decide +kernel]; exact q)
theorem isi_B_int {b : Bool} (q : Q (.bl true) H) : rIsiAll K [(.bl b), .ty "int"] H Q := w_isi (k := "bool") rfl (by simp) (by rw [show isa "bool" "int" = true by decide +kernel]; exact q)
theorem isi_B_bool {b : Bool} (q : Q (.bl true) H) : rIsiAll K [(.bl b), .ty "bool"] H Q := w_isi (k := "bool") rfl (by simp) (by rw [show isa "bool" "bool" = true by decide +kernel]; exact q)
theorem isi_B_list {b : Bool} (q : Q (.bl false) H) : rIsiAll K [(.bl b), .ty "list"] H Q := w_isi (k := "bool") rfl (by simp) (by rw [show isa "bool" "list" = false by decide +kernel]; exact q)
theorem isi_B_tuple {b : Bool} (q : Q (.bl false) H) : rIsiAll K [(.bl b), .ty "tuple"] H Q := w_isi (k := "bool") rfl (by simp) (by rw [show isa "bool" "tuple" = false by decide +kernel]; exact q)
theorem isi_B_lt {b : Bool} {p : Addr} (hp : H p = some (.tup [.ty "list", .ty "tuple"])) (q : Q (.bl false) H) : rIsiAll K [(.bl b), .ref p] H Q := w_isi2 (k := "bool") hp rfl (by simp) (by simp) (by rw [show (isa "bool" "list" || isa "bool" "tuple") = false by decide +kernel]; exact q)
theorem isi_I_str {i : Int} (q : Q (.bl false) H) : rIsiAll K [(.int i), .ty "str"] H Q := w_isi (k := "int") rfl (by simp) (by rw [show isa "int" "str" = false by decide +kernel]; exact q)
theorem isi_I_int {i : Int} (q : Q (.bl true) H) : rIsiAll K [(.int i), .ty "int"] H Q := w_isi (k := "int") rfl (by simp) (by rw [show isa "int" "int" = true by decide +kernel]; exact q)
theorem isi_I_bool {i : Int} (q : Q (.bl false) H) : rIsiAll K [(.int i), .ty "bool"] H Q := w_isi (k := "int") rfl (by simp) (by rw [show isa "int" "bool" = false by decide +kernel]; exact q)
theorem isi_I_list {i : Int} (q : Q (.bl false) H) : rIsiAll K [(.int i), .ty "list"] H Q := w_isi (k := "int") rfl (by simp) (by rw [show isa "int" "list" = false by decide +kernel]; exact q)
theorem isi_I_tuple {i : Int} (q : Q (.bl false) H) : rIsiAll K [(.int i), .ty "tuple"] H Q := w_isi (k := "int") rfl (by simp) (by rw [show isa "int" "tuple" = false by decide +kernel]; exact q)
theorem isi_I_lt {i : Int} {p : Addr} (hp : H p = some (.tup [.ty "list", .ty "tuple"])) (q : Q (.bl false) H) : rIsiAll K [(.int i), .ref p] H Q := w_isi2 (k := "int") hp rfl (by simp) (by simp) (by rw [show (isa "int" "list" || isa "int" "tuple") = false by decide +kernel]; exact q)
theorem isi_S_str {z : Str} (q : Q (.bl true) H) : rIsiAll K [(.str z), .ty "str"] H Q := w_isi (k := "str") rfl (by simp) (by rw [show isa "str" "str" = true by decide +kernel]; exact q)
theorem isi_S_int {z : Str} (q : Q (.bl false) H) : rIsiAll K [(.str z), .ty "int"] H Q := w_isi (k := "str") rfl (by simp) (by rw [show isa "str" "int" = false by decide +kernel]; exact q)
theorem isi_S_bool {z : Str} (q : Q (.bl false) H) : rIsiAll K [(.str z), .ty "bool"] H Q := w_isi (k := "str") rfl (by simp) (by rw [show isa "str" "bool" = false by decide +kernel]; exact q)
theorem isi_S_list {z : Str} (q : Q (.bl false) H) : rIsiAll K [(.str z), .ty "list"] H Q := w_isi (k := "str") rfl (by simp) (by rw [show isa "str" "list" = false by decide +kernel]; exact q)
theorem isi_S_tuple {z : Str} (q : Q (.bl false) H) : rIsiAll K [(.str z), .ty "tuple"] H Q := w_isi (k := "str") rfl (by simp) (by rw [show isa "str" "tuple" = false by decide +kernel]; exact q)
theorem isi_S_lt {z : Str} {p : Addr} (hp : H p = some (.tup [.ty "list", .ty "tuple"])) (q : Q (.bl false) H) : rIsiAll K [(.str z), .ref p] H Q := w_isi2 (k := "str") hp rfl (by simp) (by simp) (by rw [show (isa "str" "list" || isa "str" "tuple") = false by decide +kernel]; exact q)
theorem isi_L_str {a : Addr} {xs : List V} (h : H a = some (.lst xs)) (q : Q (.bl false) H) : rIsiAll K [(.ref a), .ty "str"] H Q := w_isi (k := "list") (by simp [kindOf, h]) (by simp) (by rw [show isa "list" "str" = false by decide +kernel]; exact q)
theorem isi_L_int {a : Addr} {xs : List V} (h : H a = some (.lst xs)) (q : Q (.bl false) H) : rIsiAll K [(.ref a), .ty "int"] H Q := w_isi (k := "list") (by simp [kindOf, h]) (by simp) (by rw [show isa "list" "int" = false by decide +kernel]; exact q)
theorem isi_L_bool {a : Addr} {xs : List V} (h : H a = some (.lst xs)) (q : Q (.bl false) H) : rIsiAll K [(.ref a), .ty "bool"] H Q := w_isi (k := "list") (by simp [kindOf, h]) (by simp) (by rw [show isa "list" "bool" = false by decide +kernel]; exact q)
theorem isi_L_list {a : Addr} {xs : List V} (h : H a = some (.lst xs)) (q : Q (.bl true) H) : rIsiAll K [(.ref a), .ty "list"] H Q := w_isi (k := "list") (by simp [kindOf, h]) (by simp) (by rw [show isa "list" "list" = true by decide +kernel]; exact q)
theorem isi_L_tuple {a : Addr} {xs : List V} (h : H a = some (.lst xs)) (q : Q (.bl false) H) : rIsiAll K [(.ref a), .ty "tuple"] H Q := w_isi (k := "list") (by simp [kindOf, h]) (by simp) (by rw [show isa "list" "tuple" = false by decide +kernel]; exact q)
theorem isi_L_lt {a : Addr} {xs : List V} {p : Addr} (h : H a = some (.lst xs)) (hp : H p = some (.tup [.ty "list", .ty "tuple"])) (q : Q (.bl true) H) : rIsiAll K [(.ref a), .ref p] H Q := w_isi2 (k := "list") hp (by simp [kindOf, h]) (by simp) (by simp) (by rw [show (isa "list" "list" || isa "list" "tuple") = true by decide +kernel]; exact q)
theorem isi_T_str {a : Addr} {xs : List V} (h : H a = some (.tup xs)) (q : Q (.bl false) H) : rIsiAll K [(.ref a), .ty "str"] H Q := w_isi (k := "tuple") (by simp [kindOf, h]) (by simp) (by rw [show isa "tuple" "str" = false by decide +kernel]; exact q)
theorem isi_T_int {a : Addr} {xs : List V} (h : H a = some (.tup xs)) (q : Q (.bl false) H) : rIsiAll K [(.ref a), .ty "int"] H Q := w_isi (k := "tuple") (by simp [kindOf, h]) (by simp) (by rw [show isa "tuple" "int" = false by decide +kernel]; exact q)
theorem isi_T_bool {a : Addr} {xs : List V} (h : H a = some (.tup xs)) (q : Q (.bl false) H) : rIsiAll K [(.ref a), .ty "bool"] H Q := w_isi (k := "tuple") (by simp [kindOf, h]) (by simp) (by rw [show isa "tuple" "bool" = false by decide +kernel]; exact q)
theorem isi_T_list {a : Addr} {xs : List V} (h : H a = some (.tup xs)) (q : Q (.bl false) H) : rIsiAll K [(.ref a), .ty "list"] H Q := w_isi (k := "tuple") (by simp [kindOf, h]) (by simp) (by rw [show isa "tuple" "list" = false by decide +kernel]; exact q)
theorem isi_T_tuple {a : Addr} {xs : List V} (h : H a = some (.tup xs)) (q : Q (.bl true) H) : rIsiAll K [(.ref a), .ty "tuple"] H Q := w_isi (k := "tuple") (by simp [kindOf, h]) (by simp) (by rw [show isa "tuple" "tuple" = true by decide +kernel]; exact q)
theorem isi_T_lt {a : Addr} {xs : List V} {p : Addr} (h : H a = some (.tup xs)) (hp : H p = some (.tup [.ty "list", .ty "tuple"])) (q : Q (.bl true) H) : rIsiAll K [(.ref a), .ref p] H Q := w_isi2 (k := "tuple") hp (by simp [kindOf, h]) (by simp) (by simp) (by rw [show (isa "tuple" "list" || isa "tuple" "tuple") = true by decide +kernel]; exact q)
theorem w_ifT {c : Bool} {A B : Prop} (h : c = true) (q : A) : if c = true then A else B := by rw [if_pos h]; exact q
theorem w_ifF {c : Bool} {A B : Prop} (h : c = false) (q : B) : if c = true then A else B := by rw [if_neg (by rw [h]; exact Bool.false_ne_true)]; exact q
end

/-! ### comprehensions -/
section
variable {K : PySem.W.Frag} {σ : L2.St} {H : Hp} {Q : VK} {g : TG} {tt : TT} {te : TE} {vs : List Nat} {J : It} {n : Nat} {G : Hp → Prop} {xs : List V}
theorem take_succ_get {α : Type} {xs : List α} {i : Nat} {x : α} (h : xs[i]? = some x) : xs.take (i + 1) = xs.take i ++ [x] := by
  rw [List.take_succ, h]; rfl
/-- elements and tests that change nothing -/
theorem lc_pure (σw : L2.St) (hw : wipe σ vs = σw) (w : Walk J n G (fun i H x H' => H' = H ∧ xs[i]? = some x)) (hn : n = xs.length) (hG : ∀ H', Gr [] H H' → G H') (p : V → Bool) (f : V → V)
    (hs : ∀ x H1, x ∈ xs → Gr [] H H1 → ∀ (R : Hp → Prop) (A : VK), (∀ H2, Gr [] H1 H2 → p x = true → A (f x) H2) → (∀ H2, Gr [] H1 H2 → p x = false → R H2) →
      g x σw H1 fun σ2 H2 => wipe σ2 vs = σw ∧ tt σ2 H2 fun b H3 => if b = true then te σ2 H3 A else R H3)
    (hz : xs.length ≤ 16000000) (q : ∀ D H', Gr [] H H' → H D = none → H' D = some (.lst ((xs.filter p).map f)) → Q (.ref D) H') : kLc g tt te vs σ Q J H := by
  intro D hD
  subst hn
  subst hw
  refine lc_it w (fun i H' => Gr [] H H' ∧ H' D = some (.lst (((xs.take i).filter p).map f))) ⟨Gr.new hD, by rw [upd_same]; simp⟩ (fun i H' _ h => hG H' h.1) ?_ ?_
  · rintro i x H1 H1' hi ⟨g1, d1⟩ ⟨rfl, hx⟩
    have hm : x ∈ xs := List.mem_of_getElem? hx
    have hlen : (((xs.take i).filter p).map f).length ≤ 16000000 := by
      rw [List.length_map]
      refine Nat.le_trans (List.length_filter_le _ _) ?_
      rw [List.length_take]; omega
    refine hs x _ hm g1 _ _ (fun H2 g2 hp => ?_) (fun H2 g2 hp => ?_)
    · refine ⟨_, g2.get0 d1, sz_lt (by omega), ?_, ?_⟩
      · have gg : Gr [D] H (upd H2 D (.lst ((((xs.take i).filter p).map f) ++ [f x]))) := (g1.trans g2).wide.trans (Gr.put (g2.get0 d1) rfl (List.mem_cons_self))
        exact gg.fresh hD
      · rw [upd_same, take_succ_get hx, List.filter_append, List.map_append]
        simp [hp]
    · refine ⟨g1.trans g2, ?_⟩
      rw [g2.get0 d1, take_succ_get hx, List.filter_append, List.map_append]
      simp [hp]
  · rintro H' ⟨g1, d1⟩
    rw [List.take_length] at d1
    exact q D H' g1 hD d1
/-- the walked things as a list -/
theorem walk_listE {a : Addr} : Walk (Itl K a) xs.length (fun H => SqL K H a xs) (fun i H x H' => H' = H ∧ xs[i]? = some x) := walk_list
theorem walk_tupE {a : Addr} : Walk (Itt K a) xs.length (fun H => SqT K H a xs) (fun i H x H' => H' = H ∧ xs[i]? = some x) := walk_tup
def signs (z : Str) : List V := z.cps.toList.map fun c => .str ⟨#[c]⟩
theorem walk_strE {z : Str} : Walk (Its z) (signs z).length (fun _ => True) (fun i H x H' => H' = H ∧ (signs z)[i]? = some x) := by
  have e : (signs z).length = z.cps.size := by simp [signs]
  rw [e]
  refine walk_str.mono (fun _ h => h) fun i H x H' hi _ y => ?_
  obtain ⟨h1, c, h2, h3⟩ := y
  refine ⟨h1, ?_⟩
  simp [signs, h2, h3]
def intsV (n : Nat) : List V := (List.range n).map fun (i : Nat) => .int (i : Int)
theorem walk_rangeE {n : Nat} : Walk (Itr 0 n) (intsV n).length (fun _ => True) (fun i H x H' => H' = H ∧ (intsV n)[i]? = some x) := by
  have e : (intsV n).length = n := by simp [intsV]
  rw [e]
  refine walk_range.mono (fun _ h => h) fun i H x H' hi _ y => ?_
  obtain ⟨h1, h3⟩ := y
  refine ⟨h1, ?_⟩
  simp [intsV, hi, h3]
/-- elements that change what stands at fp; P tells what has been made -/
theorem lc_fx (σw : L2.St) (hw : wipe σ vs = σw) {Y : Nat → Hp → V → Hp → Prop} {fp : List Addr} (w : Walk J n G Y) (hfp : ∀ a ∈ fp, ∃ o, H a = some o) (P : Nat → List V → Hp → Prop) (h0 : ∀ H', Gr [] H H' → P 0 [] H')
    (st : ∀ i acc H1 D o, H D = none → P i acc H1 → P i acc (upd H1 D o)) (hG : ∀ i acc H', Gr fp H H' → P i acc H' → G H') (hl : ∀ i acc H', P i acc H' → acc.length < 16000000)
    (hs : ∀ i x acc H1 H2, i < n → Gr fp H H1 → P i acc H1 → Y i H1 x H2 → ∀ (R : Hp → Prop) (A : VK), (∀ y H3, Gr fp H1 H3 → P (i + 1) (acc ++ [y]) H3 → A y H3) → (∀ H3, Gr fp H1 H3 → P (i + 1) acc H3 → R H3) →
      g x σw H2 fun σ2 H2 => wipe σ2 vs = σw ∧ tt σ2 H2 fun b H3 => if b = true then te σ2 H3 A else R H3)
    (q : ∀ D acc H', Gr fp H H' → H D = none → H' D = some (.lst acc) → P n acc H' → Q (.ref D) H') : kLc g tt te vs σ Q J H := by
  intro D hD
  subst hw
  have nD : D ∉ fp := fun m => by obtain ⟨o, e⟩ := hfp D m; rw [hD] at e; cases e
  refine lc_it w (fun i H' => ∃ acc, Gr fp H H' ∧ H' D = some (.lst acc) ∧ P i acc H') ⟨[], Gr.new hD, upd_same, h0 _ (Gr.new hD)⟩ (fun i H' _ ⟨acc, h1, _, h3⟩ => hG i acc H' h1 h3) ?_ ?_
  · rintro i x H1 H1' hi ⟨acc, g1, d1, p1⟩ y
    refine hs i x acc H1 H1' hi g1 p1 y _ _ (fun y H3 g3 p3 => ?_) (fun H3 g3 p3 => ?_)
    · refine ⟨acc, g3.get d1 nD, sz_lt (by have := hl _ _ _ p1; omega), acc ++ [y], ?_, upd_same, st _ _ _ _ _ hD p3⟩
      have gg : Gr (D :: fp) H (upd H3 D (.lst (acc ++ [y]))) := ((g1.trans g3).mono fun a h => List.mem_cons_of_mem _ h).trans (Gr.put (g3.get d1 nD) rfl List.mem_cons_self)
      exact gg.fresh hD
    · exact ⟨acc, g1.trans g3, g3.get d1 nD, p3⟩
  · rintro H' ⟨acc, g1, d1, p1⟩
    exact q D acc H' g1 hD d1 p1
end

/-! ### one text in, a datum out -/
def one (f : Str → PD) : List V → Option PD
  | [.str z] => if z.length ≤ 1000000 then some (f z) else none
  | _ => none
theorem one_open {f : Str → PD} {vs : List V} {d : PD} (h : one f vs = some d) : ∃ z, vs = [.str z] ∧ z.length ≤ 1000000 ∧ d = f z := by
  unfold one at h
  split at h
  · split at h
    · cases h; exact ⟨_, rfl, by assumption, rfl⟩
    · cases h
  · cases h
theorem one_len {f : Str → PD} {vs : List V} {H : Hp} {Q : VK} {E : XK} (h : spD (one f) vs H Q E) : vs.length = 1 := by
  obtain ⟨d, h, _⟩ := h
  obtain ⟨z, rfl, _⟩ := one_open h
  rfl
theorem one_use {f : Str → PD} {z : Str} {H : Hp} {Q : VK} {E : XK} (hz : z.length ≤ 1000000) (k : ∀ v H', Gr [] H H' → TRep H' (f z) v → Q v H') : spD (one f) [.str z] H Q E :=
  ⟨f z, if_pos hz, k⟩
theorem rep_bl {H : Hp} {b c : Bool} (h : b = c) : TRep H (.bl c) (.bl b) := by unfold TRep; rw [h]
theorem rep_int {H : Hp} {b c : Int} (h : b = c) : TRep H (.int c) (.int b) := by unfold TRep; rw [h]
theorem rep_str {H : Hp} {b c : Str} (h : b = c) : TRep H (.str c) (.str b) := by unfold TRep; rw [h]
theorem rep_non {H : Hp} : TRep H .non .non := by unfold TRep; rfl
theorem rep_tup {H : Hp} {a : Addr} {xs : List V} {ds : List PD} (h : H a = some (.tup xs)) (r : TReps H ds xs) : TRep H (.tup ds) (.ref a) := by unfold TRep; exact ⟨a, xs, rfl, h, r⟩
theorem rep_lst {H : Hp} {a : Addr} {xs : List V} {ds : List PD} (h : H a = some (.lst xs)) (r : TReps H ds xs) : TRep H (.lst ds) (.ref a) := by unfold TRep; exact ⟨a, xs, rfl, h, r⟩
theorem rep_bl' {H : Hp} {b : Bool} {v : V} (h : TRep H (.bl b) v) : v = .bl b := by unfold TRep at h; exact h
theorem rep_int' {H : Hp} {b : Int} {v : V} (h : TRep H (.int b) v) : v = .int b := by unfold TRep at h; exact h
theorem rep_str' {H : Hp} {b : Str} {v : V} (h : TRep H (.str b) v) : v = .str b := by unfold TRep at h; exact h
theorem rep_non' {H : Hp} {v : V} (h : TRep H .non v) : v = .non := by unfold TRep at h; exact h
theorem rep_tup' {H : Hp} {ds : List PD} {v : V} (h : TRep H (.tup ds) v) : ∃ a xs, v = .ref a ∧ H a = some (.tup xs) ∧ TReps H ds xs := by unfold TRep at h; exact h
theorem rep_lst' {H : Hp} {ds : List PD} {v : V} (h : TRep H (.lst ds) v) : ∃ a xs, v = .ref a ∧ H a = some (.lst xs) ∧ TReps H ds xs := by unfold TRep at h; exact h
theorem Qv {Q : VK} {v v' : V} {H : Hp} (e : v = v') (h : Q v' H) : Q v H := by rw [e]; exact h
section
variable {K : PySem.W.Frag} {σ : L2.St} {H : Hp} {Q : VK} {g : TG} {te : TE} {vs : List Nat} {z : Str}
theorem filter_true {α : Type} (xs : List α) : xs.filter (fun _ => true) = xs := by simp
/-- over a text, sign by sign -/
theorem lc_signs (σw : L2.St) (hw : wipe σ vs = σw) (f : Nat → V) (hz : z.length ≤ 16000000)
    (hs : ∀ c H1, c ∈ z.cps.toList → Gr [] H H1 → ∀ (R : Hp → Prop) (A : VK), (∀ H2, Gr [] H1 H2 → A (f c) H2) →
      g (.str ⟨#[c]⟩) σw H1 fun σ2 H2 => wipe σ2 vs = σw ∧ tYes σ2 H2 fun b H3 => if b = true then te σ2 H3 A else R H3)
    (q : ∀ D H', Gr [] H H' → H D = none → H' D = some (.lst (z.cps.toList.map f)) → Q (.ref D) H') : kLc g tYes te vs σ Q (Its z) H := by
  refine lc_pure σw hw (xs := signs z) walk_strE rfl (fun _ _ => trivial) (fun _ => true) (fun x => match x with | .str s => f (s.cps.getD 0 0) | _ => .non) (fun x H1 hx g1 R A kA kR => ?_) (by simpa [signs, Str.length] using hz) (fun D H' g1 hD e => ?_)
  · obtain ⟨c, hc, rfl⟩ := List.mem_map.mp hx
    exact hs c H1 hc g1 R A (fun H2 g2 => kA H2 g2 rfl)
  · refine q D H' g1 hD ?_
    rw [e, filter_true]
    simp [signs]
end

section
variable {K : PySem.W.Frag} {σ : L2.St} {H : Hp} {Q : VK} {tt : TT} {ta tb : TE} {c : Bool} {v : V}
/-- both ways give one value -/
theorem if_join (hc : ∀ QB : Bool → Hp → Prop, QB c H → tt σ H QB) (h1 : c = true → ∀ Q' : VK, Q' v H → ta σ H Q') (h2 : c = false → ∀ Q' : VK, Q' v H → tb σ H Q') (q : Q v H) : tIf tt ta tb σ H Q := by
  refine hc _ ?_
  cases c with
  | true => exact (if_pos rfl).mpr (h1 rfl _ q)
  | false => exact (if_neg Bool.false_ne_true).mpr (h2 rfl _ q)
theorem cutS_len (z : Str) (lo hi : Option Int) : (cutS z lo hi).length ≤ z.length := by
  have e : (cutS z lo hi).length = ((z.cps.toList.drop (HT.sIx z.length 0 lo)).take (HT.sIx z.length z.length hi - HT.sIx z.length 0 lo)).length := by simp [cutS, Str.length]
  rw [e, List.length_take, List.length_drop]
  have : z.length = z.cps.toList.length := by simp [Str.length]
  omega
theorem atI_zero {α : Type} {xs : List α} {c : α} {r : List α} (h : xs = c :: r) : atI xs 0 = some c := by
  subst h
  simp [atI, ixN]
end

/-! ### the steps as a class: found by the head of what is to be shown -/
class Stp (P : Prop) (P' : outParam Prop) : Prop where
  h : P' → P
class Look (σ : L2.St) (i : Nat) (v : outParam V) : Prop where
  h : σ[i]? = some (some v)
instance {v : V} {r : L2.St} : Look (some v :: r) 0 v := ⟨rfl⟩
instance {v : V} {x : Option V} {r : L2.St} {i : Nat} [l : Look r i v] : Look (x :: r) (i + 1) v := ⟨by simpa using l.h⟩
class SetS (σ : L2.St) (i : Nat) (v : Option V) (σ' : outParam L2.St) : Prop where
  h : σ.set i v = σ'
instance {v x : Option V} {r : L2.St} : SetS (x :: r) 0 v (v :: r) := ⟨rfl⟩
instance {v x : Option V} {r r' : L2.St} {i : Nat} [l : SetS r i v r'] : SetS (x :: r) (i + 1) v (x :: r') := ⟨by simp [l.h]⟩
class WipeS (σ : L2.St) (vs : List Nat) (σ' : outParam L2.St) : Prop where
  h : wipe σ vs = σ'
instance {σ : L2.St} : WipeS σ [] σ := ⟨rfl⟩
instance {σ σ1 σ2 : L2.St} {v : Nat} {vs : List Nat} [a : WipeS σ vs σ1] [b : SetS σ1 v none σ2] : WipeS σ (v :: vs) σ2 := ⟨by unfold wipe; rw [a.h, b.h]⟩
/-- a bound on a size: left to arithmetic -/
def SzC (p : Prop) : Prop := p
theorem szc {p q : Prop} (h : p) (k : q) : SzC p ∧ q := ⟨h, k⟩
/-- a thing of the heap: left to the look-up -/
def FrC (p : Prop) : Prop := p
theorem frc {p q : Prop} (h : p) (k : q) : FrC p ∧ q := ⟨h, k⟩
def kB (Q : Bool → Hp → Prop) : VK := fun x H' => ∃ k, x = .bl k ∧ Q k H'
def kI (Q : Int → Hp → Prop) : VK := fun x H' => ∃ k, x = .int k ∧ Q k H'
def kStr (R : V → Hp → Prop) : VK := fun x H' => (∃ a, x = .str a) ∧ R x H'
def kIL (K : PySem.W.Frag) (R : It → Hp → Prop) : VK := fun x H1 => ∃ a, x = .ref a ∧ (∃ xs, SqL K H1 a xs) ∧ R (Itl K a) H1
def kIT (K : PySem.W.Frag) (R : It → Hp → Prop) : VK := fun x H1 => ∃ a, x = .ref a ∧ (∃ xs, SqT K H1 a xs) ∧ R (Itt K a) H1
def kIS (R : It → Hp → Prop) : VK := fun x H1 => ∃ z, x = .str z ∧ R (Its z) H1
def kIR (R : It → Hp → Prop) : List V → Hp → Prop := fun vs H1 => ∃ j : Int, vs = [.int j] ∧ -(2 ^ 62) ≤ j ∧ j < 2 ^ 62 ∧ R (Itr 0 j.toNat) H1
def kIE (K : PySem.W.Frag) (R : It → Hp → Prop) : List V → Hp → Prop := fun vs H1 => ∃ a xs, vs = [.ref a] ∧ SqL K H1 a xs ∧ R (Ite K a) H1
def kTy (K : PySem.W.Frag) (T : String) (R : V → Hp → Prop) : VK := fun x H1 => tyV K T x H1 ∧ R x H1
section
variable {K : PySem.W.Frag} {σ σ' : L2.St} {σx : V → L2.St} {H : Hp} {Q : VK} {QB : Bool → Hp → Prop} {QI : Int → Hp → Prop} {QO : Option Int → Hp → Prop} {QA : List V → Hp → Prop} {QS : L2.St → Hp → Prop} {D : Ends} {t u : TS} {te ta tb tc : TE} {tt tu : TT} {tA : TA} {g : TG} {i j l : Nat} {v x y : V} {r r' : R2} {n b c : L2.St → Hp → Prop} {rt : VK} {A B : Prop}
instance : Stp (tSeq t u D σ H) (t { D with nx := u D } σ H) := ⟨id⟩
instance : Stp (tNext D σ H) (D.nx σ H) := ⟨id⟩
instance : Stp ((Ends.mk n rt b c).nx σ H) (n σ H) := ⟨id⟩
instance : Stp ((Ends.mk n rt b c).rt v H) (rt v H) := ⟨id⟩
instance : Stp ((Ends.mk n rt b c).bk σ H) (b σ H) := ⟨id⟩
instance : Stp ((Ends.mk n rt b c).ct σ H) (c σ H) := ⟨id⟩
instance (priority := high) [s : ∀ x, SetS σ i (some x) (σx x)] : Stp (tAsg te (gName i) D σ H) (te σ H (fun x H1 => D.nx (σx x) H1)) := ⟨fun h => by
  have e : (fun (x : V) (H1 : Hp) => D.nx (σx x) H1) = fun x H1 => D.nx (σ.set i (some x)) H1 := by funext x H1; rw [(s x).h]
  rw [e] at h; exact h⟩
instance : Stp (tAsg te g D σ H) (te σ H (fun x H1 => g x σ H1 D.nx)) := ⟨id⟩
instance [s : SetS σ i (some v) σ'] : Stp (gName i v σ H QS) (QS σ' H) := ⟨fun h => by rw [← s.h] at h; exact h⟩
instance : Stp (tRet te D σ H) (te σ H D.rt) := ⟨id⟩
instance : Stp (tRetN D σ H) (D.rt .non H) := ⟨id⟩
instance : Stp (tDrop te D σ H) (te σ H (fun _ H1 => D.nx σ H1)) := ⟨id⟩
instance [s : Look σ i v] : Stp (tVar i σ H Q) (Q v H) := ⟨w_var s.h⟩
instance : Stp (tC v σ H Q) (Q v H) := ⟨id⟩
instance : Stp (tOp r ta tb σ H Q) (ta σ H (fun x H1 => tb σ H1 (fun y H2 => r x y H2 Q))) := ⟨id⟩
instance {r : V → Hp → VK → Prop} : Stp (tUn r ta σ H Q) (ta σ H (fun x H1 => r x H1 Q)) := ⟨id⟩
instance : Stp (tTest te σ H QB) (te σ H (kB QB)) := ⟨id⟩
instance : Stp (tB te σ H QB) (te σ H (kB QB)) := ⟨id⟩
instance {b : Bool} : Stp (kB QB (.bl b) H) (QB b H) := ⟨fun h => ⟨b, rfl, h⟩⟩
instance {b : Int} : Stp (kI QI (.int b) H) (QI b H) := ⟨fun h => ⟨b, rfl, h⟩⟩
instance : Stp (tIfS tt t u D σ H) (tt σ H (fun b H1 => if b = true then t D σ H1 else u D σ H1)) := ⟨id⟩
instance : Stp (tIf tt ta tb σ H Q) (tt σ H (fun c H1 => if c = true then ta σ H1 Q else tb σ H1 Q)) := ⟨id⟩
instance : Stp (tAnd tt tu σ H QB) (tt σ H (fun c H1 => if c = true then tu σ H1 QB else QB false H1)) := ⟨id⟩
instance : Stp (tOr tt tu σ H QB) (tt σ H (fun c H1 => if c = true then QB true H1 else tu σ H1 QB)) := ⟨id⟩
instance : Stp (tNot tt σ H QB) (tt σ H (fun c H1 => QB (!c) H1)) := ⟨id⟩
instance : Stp (tAndV ta tb σ H Q) (ta σ H (kB fun c H1 => if c = true then tb σ H1 Q else Q (.bl false) H1)) := ⟨id⟩
instance : Stp (tOrV ta tb σ H Q) (ta σ H (kB fun c H1 => if c = true then Q (.bl true) H1 else tb σ H1 Q)) := ⟨id⟩
instance : Stp (tNotV ta σ H Q) (ta σ H (kB fun c H1 => Q (.bl (!c)) H1)) := ⟨id⟩
instance : Stp (tChain r r' ta tb tc σ H Q) (ta σ H (fun x H1 => tb σ H1 (fun y H2 => r x y H2 (kB fun k H3 => if k = true then tc σ H3 (fun w' H4 => r' y w' H4 Q) else Q (.bl false) H3)))) := ⟨id⟩
instance : Stp (tNil σ H QA) (QA [] H) := ⟨id⟩
instance : Stp (tCons ta tA σ H QA) (ta σ H (fun x H1 => tA σ H1 (fun xs H2 => QA (x :: xs) H2))) := ⟨id⟩
instance : Stp (tTup tA σ H Q) (tA σ H (kTup Q)) := ⟨id⟩
instance : Stp (tLst tA σ H Q) (tA σ H (kLst Q)) := ⟨id⟩
instance {sp : Sp} {dvs : List V} {E : XK} : Stp (tCall sp dvs E tA σ H Q) (tA σ H (fun vs H1 => sp (vs ++ dvs) H1 Q E)) := ⟨id⟩
instance {r : List V → Hp → VK → Prop} : Stp (tCB r tA σ H Q) (tA σ H (fun vs H1 => r vs H1 Q)) := ⟨id⟩
instance {r : V → List V → Hp → VK → Prop} : Stp (tM1 r ta tb σ H Q) (ta σ H (kStr fun x H1 => tb σ H1 (fun y H2 => r x [y] H2 Q))) := ⟨id⟩
instance {R : V → Hp → Prop} {s : Str} : Stp (kStr R (.str s) H) (R (.str s) H) := ⟨fun h => ⟨⟨s, rfl⟩, h⟩⟩
instance {T : String} {r : V → List V → Hp → VK → Prop} : Stp (tBM K T r ta tA σ H Q) (ta σ H (kTy K T fun x H1 => tA σ H1 (fun xs H2 => r x xs H2 Q))) := ⟨id⟩
instance {T : String} {r : V → List V → Hp → VK → Prop} : Stp (tBM0 K T r ta σ H Q) (ta σ H (kTy K T fun x H1 => r x [] H1 Q)) := ⟨id⟩
theorem w_kTyL {R : V → Hp → Prop} {a : Addr} {xs : List V} (hl : H a = some (.lst xs)) (h : R (.ref a) H) : kTy K "list" R (.ref a) H := w_tyL hl h
instance {r : V → Option Int → Option Int → Hp → VK → Prop} {tl th : TO} : Stp (tSl r ta tl th σ H Q) (ta σ H (fun x H1 => tl σ H1 (fun lo H2 => th σ H2 (fun hi H3 => r x lo hi H3 Q)))) := ⟨id⟩
instance : Stp (tNoPart σ H QO) (QO none H) := ⟨id⟩
instance : Stp (tPart ta σ H QO) (ta σ H (kI fun i H1 => QO (some i) H1)) := ⟨id⟩
instance {ti : TIp} [lk : Look σ i x] [s : ∀ z, SetS σ i (some z) (σx z)] : Stp (tAug i te ti D σ H) (te σ H (fun y H1 => ti x y H1 (fun z H2 => D.nx (σx z) H2))) := ⟨fun h => w_aug lk.h (by
  have e : σx = fun z => σ.set i (some z) := by funext z; rw [(s z).h]
  rw [e] at h; exact h)⟩
def kPar (i j : Nat) (D : Ends) (σ : L2.St) : List V → Hp → Prop := fun vs H1 => ∃ v w, vs = [v, w] ∧ D.nx ((σ.set i (some v)).set j (some w)) H1
instance : Stp (tPar i j tA D σ H) (tA σ H (kPar i j D σ)) := ⟨id⟩
instance {σ1 σ2 : L2.St} [a : SetS σ i (some x) σ1] [b : SetS σ1 j (some y) σ2] : Stp (kPar i j D σ [x, y] H) (D.nx σ2 H) := ⟨fun h => ⟨x, y, rfl, by rw [a.h, b.h]; exact h⟩⟩
def kPar3 (i j l : Nat) (D : Ends) (σ : L2.St) : List V → Hp → Prop := fun vs H1 => ∃ u v w, vs = [u, v, w] ∧ D.nx (((σ.set i (some u)).set j (some v)).set l (some w)) H1
instance {σ1 σ2 σ3 : L2.St} {z : V} [a : SetS σ i (some x) σ1] [b : SetS σ1 j (some y) σ2] [c : SetS σ2 l (some z) σ3] : Stp (kPar3 i j l D σ [x, y, z] H) (D.nx σ3 H) := ⟨fun h => ⟨x, y, z, rfl, by rw [a.h, b.h, c.h]; exact h⟩⟩
instance : Stp (tIsN ta σ H Q) (ta σ H (fun x H1 => Q (.bl (decide (x = .non))) H1)) := ⟨id⟩
instance : Stp (tNotN ta σ H Q) (ta σ H (fun x H1 => Q (.bl (!decide (x = .non))) H1)) := ⟨id⟩
instance {wi : TI} {tb : TS} : Stp (tFor wi g tb D σ H) (wi σ H (kFor g tb D σ)) := ⟨id⟩
instance {wi : TI} {vs : List Nat} : Stp (tLc wi g tt te vs σ H Q) (wi σ H (kLc g tt te vs σ Q)) := ⟨id⟩
instance {R : It → Hp → Prop} : Stp (iRng1 tA σ H R) (tA σ H (kIR R)) := ⟨id⟩
instance {R : It → Hp → Prop} : Stp (iEnum K tA σ H R) (tA σ H (kIE K R)) := ⟨id⟩
instance {R : It → Hp → Prop} {z : Str} : Stp (kIS R (.str z) H) (R (Its z) H) := ⟨fun h => ⟨z, rfl, h⟩⟩
theorem w_iL' {R : It → Hp → Prop} (h : te σ H (kIL K R)) : iAny K te σ H R := Or.inl h
theorem w_iT' {R : It → Hp → Prop} (h : te σ H (kIT K R)) : iAny K te σ H R := Or.inr (Or.inl h)
theorem w_iS' {R : It → Hp → Prop} (h : te σ H (kIS R)) : iAny K te σ H R := Or.inr (Or.inr h)
theorem w_kIL {R : It → Hp → Prop} {a : Addr} {xs : List V} (hl : SqL K H a xs) (h : R (Itl K a) H) : kIL K R (.ref a) H := ⟨a, rfl, ⟨xs, hl⟩, h⟩
theorem w_kIT {R : It → Hp → Prop} {a : Addr} {xs : List V} (hl : SqT K H a xs) (h : R (Itt K a) H) : kIT K R (.ref a) H := ⟨a, rfl, ⟨xs, hl⟩, h⟩
theorem w_kIE {R : It → Hp → Prop} {a : Addr} {xs : List V} (hl : SqL K H a xs) (h : R (Ite K a) H) : kIE K R [.ref a] H := ⟨a, xs, rfl, hl, h⟩
theorem w_kIR {R : It → Hp → Prop} {k : Int} (h1 : -1000000 ≤ k ∧ k ≤ 1000000) (h : R (Itr 0 k.toNat) H) : kIR R [.int k] H := ⟨k, rfl, by omega, by omega, h⟩
instance : Stp (tYes σ H QB) (QB true H) := ⟨id⟩
instance {u : TGs} {t : TG} {xs : List V} : Stp (gCons t u (x :: xs) σ H QS) (t x σ H (fun σ' H' => u xs σ' H' QS)) := ⟨fun h => ⟨x, xs, rfl, h⟩⟩
instance : Stp (gNil [] σ H QS) (QS σ H) := ⟨fun h => ⟨rfl, h⟩⟩
/-! decided tests -/
instance {d : Decidable (true = true)} : Stp (@ite Prop (true = true) d A B) A := ⟨fun h => by rw [if_pos rfl]; exact h⟩
instance {d : Decidable (false = true)} : Stp (@ite Prop (false = true) d A B) B := ⟨fun h => by rw [if_neg Bool.false_ne_true]; exact h⟩
instance {d : Decidable ((!true) = true)} : Stp (@ite Prop ((!true) = true) d A B) B := ⟨fun h => by rw [if_neg (show ¬ ((!true) = true) from Bool.false_ne_true)]; exact h⟩
instance {d : Decidable ((!false) = true)} : Stp (@ite Prop ((!false) = true) d A B) A := ⟨fun h => by rw [if_pos (show (!false) = true from rfl)]; exact h⟩
/-! .. of none -/
instance {a : Int} {i : Decidable (V.int a = V.non)} {d : Decidable (@decide (V.int a = V.non) i = true)} : Stp (@ite Prop (@decide (V.int a = V.non) i = true) d A B) B := ⟨fun h => by rw [if_neg (by rw [decide_eq_false (fun z => nomatch z)]; exact Bool.false_ne_true)]; exact h⟩
instance {a : Int} {i : Decidable (V.int a = V.non)} {d : Decidable ((!@decide (V.int a = V.non) i) = true)} : Stp (@ite Prop ((!@decide (V.int a = V.non) i) = true) d A B) A := ⟨fun h => by rw [if_pos (by rw [decide_eq_false (fun z => nomatch z)]; rfl)]; exact h⟩
instance {a : Str} {i : Decidable (V.str a = V.non)} {d : Decidable (@decide (V.str a = V.non) i = true)} : Stp (@ite Prop (@decide (V.str a = V.non) i = true) d A B) B := ⟨fun h => by rw [if_neg (by rw [decide_eq_false (fun z => nomatch z)]; exact Bool.false_ne_true)]; exact h⟩
instance {a : Str} {i : Decidable (V.str a = V.non)} {d : Decidable ((!@decide (V.str a = V.non) i) = true)} : Stp (@ite Prop ((!@decide (V.str a = V.non) i) = true) d A B) A := ⟨fun h => by rw [if_pos (by rw [decide_eq_false (fun z => nomatch z)]; rfl)]; exact h⟩
instance {a : Bool} {i : Decidable (V.bl a = V.non)} {d : Decidable (@decide (V.bl a = V.non) i = true)} : Stp (@ite Prop (@decide (V.bl a = V.non) i = true) d A B) B := ⟨fun h => by rw [if_neg (by rw [decide_eq_false (fun z => nomatch z)]; exact Bool.false_ne_true)]; exact h⟩
instance {a : Bool} {i : Decidable (V.bl a = V.non)} {d : Decidable ((!@decide (V.bl a = V.non) i) = true)} : Stp (@ite Prop ((!@decide (V.bl a = V.non) i) = true) d A B) A := ⟨fun h => by rw [if_pos (by rw [decide_eq_false (fun z => nomatch z)]; rfl)]; exact h⟩
instance {a : Addr} {i : Decidable (V.ref a = V.non)} {d : Decidable (@decide (V.ref a = V.non) i = true)} : Stp (@ite Prop (@decide (V.ref a = V.non) i = true) d A B) B := ⟨fun h => by rw [if_neg (by rw [decide_eq_false (fun z => nomatch z)]; exact Bool.false_ne_true)]; exact h⟩
instance {a : Addr} {i : Decidable (V.ref a = V.non)} {d : Decidable ((!@decide (V.ref a = V.non) i) = true)} : Stp (@ite Prop ((!@decide (V.ref a = V.non) i) = true) d A B) A := ⟨fun h => by rw [if_pos (by rw [decide_eq_false (fun z => nomatch z)]; rfl)]; exact h⟩
instance {i : Decidable (V.non = V.non)} {d : Decidable (@decide (V.non = V.non) i = true)} : Stp (@ite Prop (@decide (V.non = V.non) i = true) d A B) A := ⟨fun h => by rw [if_pos (decide_eq_true rfl)]; exact h⟩
instance {i : Decidable (V.non = V.non)} {d : Decidable ((!@decide (V.non = V.non) i) = true)} : Stp (@ite Prop ((!@decide (V.non = V.non) i) = true) d A B) B := ⟨fun h => by rw [if_neg (by rw [decide_eq_true rfl]; exact Bool.false_ne_true)]; exact h⟩
/-! the values' rules -/
instance {a b : Int} : Stp (rAddA K (.int a) (.int b) H Q) (Q (.int (a + b)) H) := ⟨id⟩
instance {a b : Str} : Stp (rAddA K (.str a) (.str b) H Q) (SzC (a.length + b.length ≤ 16777216) ∧ Q (.str (a ++ b)) H) := ⟨fun h => w_addS h.1 h.2⟩
instance {f : Int → Int → V} {a b : Int} : Stp (rI0 f (.int a) (.int b) H Q) (Q (f a b) H) := ⟨w_rI0⟩
instance {C : Int → Int → Prop} {f : Int → Int → V} {a b : Int} : Stp (rI C f (.int a) (.int b) H Q) (SzC (C a b) ∧ Q (f a b) H) := ⟨fun h => w_rI h.1 h.2⟩
instance {f : Int → V} {a : Int} : Stp (rU f (.int a) H Q) (Q (f a) H) := ⟨fun h => ⟨a, rfl, h⟩⟩
instance {a b : Int} : Stp (rMulA (.int a) (.int b) H Q) (SzC (CMul a b) ∧ Q (.int (a * b)) H) := ⟨fun h => h⟩
instance {a : Str} {k : Int} : Stp (rMulA (.str a) (.int k) H Q) (SzC (a.length ≤ 10 ∧ -10 ≤ k ∧ k ≤ 1000) ∧ Q (.str (PySem.Txt.mul a k)) H) := ⟨fun h => w_mulS h.1.1 h.1.2 h.2⟩
class Scal (x y : V) : Prop where
  h : scal x y = true
instance {a b : Int} : Scal (.int a) (.int b) := ⟨rfl⟩
instance {a b : Str} : Scal (.str a) (.str b) := ⟨rfl⟩
instance {a b : Bool} : Scal (.bl a) (.bl b) := ⟨rfl⟩
instance {a : Int} : Scal (.int a) .non := ⟨rfl⟩
instance {a : Str} : Scal (.str a) .non := ⟨rfl⟩
instance {b : Int} : Scal .non (.int b) := ⟨rfl⟩
instance {b : Str} : Scal .non (.str b) := ⟨rfl⟩
instance : Scal .non .non := ⟨rfl⟩
instance {a : Int} {b : Str} : Scal (.int a) (.str b) := ⟨rfl⟩
instance {a : Str} {b : Int} : Scal (.str a) (.int b) := ⟨rfl⟩
instance [s : Scal x y] : Stp (rEqA K x y H Q) (Q (.bl (decide (x = y))) H) := ⟨w_eqS s.h⟩
instance [s : Scal x y] : Stp (rNeA K x y H Q) (Q (.bl (!decide (x = y))) H) := ⟨w_neS s.h⟩
instance {a b : Int} : Stp (rLeA (.int a) (.int b) H Q) (Q (.bl (decide (a ≤ b))) H) := ⟨id⟩
instance {a b : Str} : Stp (rLeA (.str a) (.str b) H Q) (Q (.bl (!decide (b.cps.toList < a.cps.toList))) H) := ⟨id⟩
instance {k : Nat} {z : Str} : Stp (rInA K (.str ⟨#[k]⟩) (.str z) H Q) (Q (.bl (decide (k ∈ z.cps.toList))) H) := ⟨w_inS⟩
instance {k : Nat} {z : Str} : Stp (rNinA K (.str ⟨#[k]⟩) (.str z) H Q) (Q (.bl (!decide (k ∈ z.cps.toList))) H) := ⟨w_ninS⟩
instance {z : Str} {lo hi : Option Int} : Stp (rSlA K (.str z) lo hi H Q) (SzC (z.length ≤ 16777216) ∧ Q (.str (cutS z lo hi)) H) := ⟨fun h => w_slS h.1 h.2⟩
instance {z : Str} : Stp (rLenA K [.str z] H Q) (SzC (z.length ≤ 16777216) ∧ Q (.int z.length) H) := ⟨fun h => w_lenS h.1 h.2⟩
instance {a : Int} : Stp (rAbs [.int a] H Q) (Q (.int (if a < 0 then -a else a)) H) := ⟨w_abs⟩
instance {a b : Int} : Stp (rMaxA [.int a, .int b] H Q) (Q (.int (if b > a then b else a)) H) := ⟨w_max2⟩
instance {a b : Int} : Stp (rMinA [.int a, .int b] H Q) (Q (.int (if b < a then b else a)) H) := ⟨w_min2⟩
instance {a : Int} : Stp (rIntA [.int a] H Q) (Q (.int a) H) := ⟨id⟩
instance {a : Bool} : Stp (rIntA [.bl a] H Q) (Q (.int (if a then 1 else 0)) H) := ⟨id⟩
instance {a b : Str} : Stp (rStarts (.str a) [.str b] H Q) (Q (.bl (PySem.Txt.startswith a b)) H) := ⟨w_starts⟩
instance {a b : Str} : Stp (rLstrip (.str a) [.str b] H Q) (SzC (a.length ≤ 16777216) ∧ Q (.str (PySem.Txt.lstripChars a b)) H) := ⟨fun h => w_lstrip h.1 h.2⟩
instance {a b : Int} : Stp (ipAdd (.int a) (.int b) H Q) (Q (.int (a + b)) H) := ⟨id⟩
instance {a b : Str} : Stp (ipAdd (.str a) (.str b) H Q) (SzC (a.length + b.length ≤ 16777216) ∧ Q (.str (a ++ b)) H) := ⟨fun h => w_ipS h.1 h.2⟩
/-! isinstance of values -/
instance : Stp (rIsiAll K [.non, .ty "str"] H Q) (Q (.bl false) H) := ⟨isi_N_str⟩
instance : Stp (rIsiAll K [.non, .ty "int"] H Q) (Q (.bl false) H) := ⟨isi_N_int⟩
instance : Stp (rIsiAll K [.non, .ty "bool"] H Q) (Q (.bl false) H) := ⟨isi_N_bool⟩
instance : Stp (rIsiAll K [.non, .ty "list"] H Q) (Q (.bl false) H) := ⟨isi_N_list⟩
instance : Stp (rIsiAll K [.non, .ty "tuple"] H Q) (Q (.bl false) H) := ⟨isi_N_tuple⟩
instance {b : Bool} : Stp (rIsiAll K [(.bl b), .ty "str"] H Q) (Q (.bl false) H) := ⟨isi_B_str⟩
instance {b : Bool} : Stp (rIsiAll K [(.bl b), .ty "int"] H Q) (Q (.bl true) H) := ⟨isi_B_int⟩
instance {b : Bool} : Stp (rIsiAll K [(.bl b), .ty "bool"] H Q) (Q (.bl true) H) := ⟨isi_B_bool⟩
instance {b : Bool} : Stp (rIsiAll K [(.bl b), .ty "list"] H Q) (Q (.bl false) H) := ⟨isi_B_list⟩
instance {b : Bool} : Stp (rIsiAll K [(.bl b), .ty "tuple"] H Q) (Q (.bl false) H) := ⟨isi_B_tuple⟩
instance {i : Int} : Stp (rIsiAll K [(.int i), .ty "str"] H Q) (Q (.bl false) H) := ⟨isi_I_str⟩
instance {i : Int} : Stp (rIsiAll K [(.int i), .ty "int"] H Q) (Q (.bl true) H) := ⟨isi_I_int⟩
instance {i : Int} : Stp (rIsiAll K [(.int i), .ty "bool"] H Q) (Q (.bl false) H) := ⟨isi_I_bool⟩
instance {i : Int} : Stp (rIsiAll K [(.int i), .ty "list"] H Q) (Q (.bl false) H) := ⟨isi_I_list⟩
instance {i : Int} : Stp (rIsiAll K [(.int i), .ty "tuple"] H Q) (Q (.bl false) H) := ⟨isi_I_tuple⟩
instance {z : Str} : Stp (rIsiAll K [(.str z), .ty "str"] H Q) (Q (.bl true) H) := ⟨isi_S_str⟩
instance {z : Str} : Stp (rIsiAll K [(.str z), .ty "int"] H Q) (Q (.bl false) H) := ⟨isi_S_int⟩
instance {z : Str} : Stp (rIsiAll K [(.str z), .ty "bool"] H Q) (Q (.bl false) H) := ⟨isi_S_bool⟩
instance {z : Str} : Stp (rIsiAll K [(.str z), .ty "list"] H Q) (Q (.bl false) H) := ⟨isi_S_list⟩
instance {z : Str} : Stp (rIsiAll K [(.str z), .ty "tuple"] H Q) (Q (.bl false) H) := ⟨isi_S_tuple⟩
theorem at_start {t : TS} {D : Ends} {σ0 : L2.St} {H : Hp} (σ1 : L2.St) (e : σ0 = σ1) (h : t D σ1 H) : t D σ0 H := by rw [e]; exact h
end

theorem Gr.transF {H H1 H2 : Hp} {f : Addr} (g : Gr [] H H1) (g2 : Gr [f] H1 H2) (hf : H f = none) : Gr [] H H2 := (g.wide.trans g2).fresh hf
theorem Gr.reps1 {fp : List Addr} {H H' : Hp} {d : List PD} {v : List V} (g : Gr fp H H') (f : PD.fixs d = true) (h : TReps H d v) : TReps H' d v := TReps.tup g.tup f h
theorem fixs_append : ∀ {a b : List PD}, PD.fixs (a ++ b) = (PD.fixs a && PD.fixs b)
  | [], b => by simp [PD.fixs]
  | x :: a, b => by simp [PD.fixs, fixs_append, Bool.and_assoc]
theorem fixs_of : ∀ {a : List PD}, (∀ d ∈ a, d.fix = true) → PD.fixs a = true
  | [], _ => rfl
  | x :: a, h => by simp only [PD.fixs, Bool.and_eq_true]; exact ⟨h x (List.mem_cons_self), fixs_of fun d hd => h d (List.mem_cons_of_mem _ hd)⟩
theorem atI_nat' {α : Type} {xs : List α} {i : Nat} {c : α} (h : xs[i]? = some c) : atI xs (i : Int) = some c := by
  have hl := (List.getElem?_eq_some_iff.mp h).1
  unfold atI ixN
  rw [if_pos (by omega), if_pos (by omega)]
  simpa using h
end RS
set_option Elab.async false
set_option linter.all false
set_option maxRecDepth 100000
set_option maxHeartbeats 4000000
/-! Mir: what the defs of the texts' part compute, as plain functions. -/
namespace RS
open PySem L2
abbrev LETS : Str := "abcdefghijklmnopqrstuvwxyz"
abbrev FIGS : Str := "0123456789"
/-- a text short enough -/
def Sm (z : Str) : Bool := decide (z.length ≤ 1000000)
def isName (z : Str) : Bool := decide (1 ≤ (z.length : Int)) && (decide ((z.length : Int) ≤ 8) && (z.cps.toList.map fun c => decide (c ∈ LETS.cps.toList)).all id)
def isVal (z : Str) : Bool := (z.cps.toList.map fun c => !decide ([c] < [32]) && !decide ([126] < [c])).all id
def figsOf (w : Str) : Str := if Txt.startswith w "-" = true then cutS w (some 1) none else w
def figsOk (f : Str) (n : Int) : Bool := decide (1 ≤ (f.length : Int)) && (decide ((f.length : Int) ≤ n) && (f.cps.toList.map fun c => decide (c ∈ FIGS.cps.toList)).all id)
def numVal (w : Str) : Int := if Txt.startswith w "-" = true then -((NumText.digitsVal (figsOf w).cps.toList : Nat) : Int) else ((NumText.digitsVal w.cps.toList : Nat) : Int)
def lead0 (f : Str) : Bool := match f.cps.toList with
  | c :: _ => decide (c = 48)
  | [] => false
def numberIn (w : Str) : Option Int := if figsOk (figsOf w) 30 && !(lead0 (figsOf w) && !decide (w = ("0" : Str))) then some (numVal w) else none
def bareGo : List Nat → Str → Bool → Option Str
  | [], found, held => if held then none else some found
  | c :: r, found, held =>
    if held || !(decide (c = 39) || decide (c = 92)) then
      if held && !(decide (c = 39) || decide (c = 92)) then none else bareGo r (found ++ ⟨#[c]⟩) false
    else if c = 92 then bareGo r found true else none
def bareIn (q : Str) : Option Str := bareGo q.cps.toList "" false
def first? (w : Str) : Option Nat := w.cps.toList.head?
def last? (w : Str) : Option Nat := w.cps.toList.getLast?
def textIn (w : Str) : Option Str :=
  if decide ((w.length : Int) < 2) || !decide (first? w = some 39) || !decide (last? w = some 39) then none
  else match bareIn (cutS w (some 1) (some (-1))) with
    | none => none
    | some f => if decide (40 < (f.length : Int)) || !isVal f then none else some f
def valueIn (w : Str) : PD :=
  if cutS w none (some 1) = ("'" : Str) then (match textIn w with | some f => .str f | none => .non)
  else (match numberIn w with | some n => .int n | none => .non)
theorem valueIn_flat (w : Str) : (∀ {a}, valueIn w ≠ .ref a) ∧ (∀ {a}, valueIn w ≠ .ty a) ∧ ∀ {a}, valueIn w ≠ .ro a := by
  unfold valueIn
  split
  · split <;> exact ⟨(fun h => nomatch h), (fun h => nomatch h), (fun h => nomatch h)⟩
  · split <;> exact ⟨(fun h => nomatch h), (fun h => nomatch h), (fun h => nomatch h)⟩
def setIn (rest : Str) : PD :=
  let name := (Txt.partition rest " ").1
  let more := (Txt.partition rest " ").2.2
  let word := (Txt.rpartition more " ").1
  let slot := (Txt.rpartition more " ").2.2
  match valueIn word with
  | .non => .non
  | v => if isName name && isName slot then .tup [.str "set", .str name, v, .str slot] else .non
def withName : List V := [.str "look", .str "back", .str "copy", .str "in"]
def alone : List V := [.str "begin", .str "late", .str "pass"]
def blocks : List V := [.str "begin", .str "late", .str "in"]
def stepIn (row : Str) : PD :=
  let word := (Txt.partition row " ").1
  let rest := (Txt.partition row " ").2.2
  if word = ("set" : Str) then setIn rest
  else if inV (.str word) withName && isName rest then .tup [.str word, .str rest]
  else if inV (.str row) alone then .tup [.str row]
  else .non
/-- a text's signs are numerals: int reads it -/
theorem mem_figs {c : Nat} : decide (c ∈ FIGS.cps.toList) = true ↔ 48 ≤ c ∧ c ≤ 57 := by
  rw [decide_eq_true_eq]
  have e : FIGS.cps.toList = [48, 49, 50, 51, 52, 53, 54, 55, 56, 57] := by decide +kernel
  rw [e]
  simp only [List.mem_cons, List.not_mem_nil, or_false]
  omega
theorem figs_digits {f : Str} {n : Int} (h : figsOk f n = true) : NumText.AllDigits f.cps.toList ∧ f.cps.toList ≠ [] ∧ (f.length : Int) ≤ n := by
  simp only [figsOk, Bool.and_eq_true, decide_eq_true_eq, List.all_eq_true, List.mem_map, forall_exists_index, and_imp, forall_apply_eq_imp_iff₂, id] at h
  obtain ⟨h1, h2, h3⟩ := h
  refine ⟨fun c hc => mem_figs.mp (decide_eq_true (h3 c hc)), fun e => ?_, h2⟩
  have : f.length = 0 := by simp [Str.length] at e ⊢; simp [e]
  omega
theorem arr_extract (a : Array Nat) (i j : Nat) : (a.extract i j).toList = (a.toList.drop i).take (j - i) := by simp [List.take_drop]
theorem len_cps (w : Str) : w.length = w.cps.toList.length := by simp [Str.length]
theorem starts_one {w : Str} {k : Nat} {y : Str} (hy : y.cps = #[k]) : Txt.startswith w y = true ↔ ∃ r, w.cps.toList = k :: r := by
  unfold Txt.startswith Builtin.Str.subAt
  have hl : y.length = 1 := by simp [Str.length, hy]
  rw [hl, hy, len_cps w]
  constructor
  · intro h
    simp only [Bool.and_eq_true, decide_eq_true_eq, beq_iff_eq] at h
    obtain ⟨h1, h2⟩ := h
    have h3 := congrArg Array.toList h2
    rw [arr_extract] at h3
    cases hw : w.cps.toList with
    | nil => rw [hw] at h1; simp at h1
    | cons c r =>
      rw [hw] at h3
      simp at h3
      exact ⟨r, by rw [h3]⟩
  · rintro ⟨r, h⟩
    simp only [Bool.and_eq_true, decide_eq_true_eq, beq_iff_eq]
    refine ⟨by rw [h]; simp, ?_⟩
    apply Array.toList_inj.mp
    rw [arr_extract, h]
    simp
theorem starts_minus {w : Str} : Txt.startswith w "-" = true ↔ ∃ r, w.cps.toList = 45 :: r := starts_one (by decide +kernel)
theorem cut1 {w : Str} {c : Nat} {r : List Nat} (h : w.cps.toList = c :: r) : (cutS w (some 1) none).cps.toList = r := by
  unfold cutS
  have hl : w.length = r.length + 1 := by rw [len_cps, h]; rfl
  have e0 : HT.sIx w.length 0 (some 1) = 1 := by
    have := HT.sIx_nat w.length 0 1
    rw [hl] at this ⊢
    refine Eq.trans this ?_
    omega
  rw [e0, HT.sIx_none, h, hl]
  simp
theorem number_reads {w : Str} (h : figsOk (figsOf w) 30 = true) : intText? w = some (numVal w) ∧ w.length ≤ 640 := by
  obtain ⟨h1, h2, h3⟩ := figs_digits h
  unfold numVal
  by_cases hm : Txt.startswith w "-" = true
  · obtain ⟨r, hr⟩ := starts_minus.mp hm
    have e : (figsOf w).cps.toList = r := by unfold figsOf; rw [if_pos hm]; exact cut1 hr
    have l : w.length = (figsOf w).length + 1 := by
      have a : w.length = w.cps.toList.length := by simp [Str.length]
      have b : (figsOf w).length = (figsOf w).cps.toList.length := by simp [Str.length]
      rw [a, b, e, hr]; rfl
    rw [if_pos hm]
    refine ⟨?_, by omega⟩
    rw [e] at h1 h2 ⊢
    exact PySem.intText_neg hr h1 h2 (by omega)
  · have e : figsOf w = w := by unfold figsOf; rw [if_neg hm]
    rw [if_neg hm]
    rw [e] at h1 h2 h3
    exact ⟨PySem.intText_digits h1 h2 (by omega), by omega⟩

def optI : Option Int → PD
  | some n => .int n
  | none => .non
def optS : Option Str → PD
  | some n => .str n
  | none => .non
theorem sign_eq {c k : Nat} {y : Str} (h : y = ⟨#[k]⟩) : decide ((V.str ⟨#[c]⟩ : V) = V.str y) = decide (c = k) := by
  subst h
  have : ((V.str ⟨#[c]⟩ : V) = V.str ⟨#[k]⟩) ↔ c = k := by
    constructor
    · intro h; injection h with h; injection h with h; simpa using h
    · intro h; subst h; rfl
  simp only [this]
theorem eqV_str (a b : Str) : eqV (.str a) (.str b) = decide (a = b) := by
  show (a == b) = _
  rw [Bool.beq_eq_decide_eq]
theorem inv_cons {x y : V} {ys : List V} : inV x (y :: ys) = (eqV y x || inV x ys) := by simp [inV]
theorem inv_q (c : Nat) : inV (.str ⟨#[c]⟩) [.str "'", .str "\\"] = (decide (c = 39) || decide (c = 92)) := by
  have e1 : eqV (.str "'") (.str ⟨#[c]⟩) = decide (c = 39) := by
    rw [eqV_str]
    have := sign_eq (c := c) (k := 39) (y := "'") (by decide +kernel)
    rw [← this]
    simp only [V.str.injEq, eq_comm]
  have e2 : eqV (.str "\\") (.str ⟨#[c]⟩) = decide (c = 92) := by
    rw [eqV_str]
    have := sign_eq (c := c) (k := 92) (y := "\\") (by decide +kernel)
    rw [← this]
    simp only [V.str.injEq, eq_comm]
  rw [inv_cons, inv_cons, e1, e2]
  simp [inV]
theorem slen_app (a b : Str) : (a ++ b).length = a.length + b.length := by
  have := TL.tl_append a b
  rw [TL.len_tl, TL.len_tl a, TL.len_tl b, this, List.length_append]

theorem atI_last' {xs : List Nat} {c : Nat} (h : xs.getLast? = some c) : atI xs (-1) = some c := by
  have hne : xs ≠ [] := by rintro rfl; simp at h
  have hl : 0 < xs.length := List.length_pos_iff.mpr hne
  unfold atI ixN
  rw [if_neg (by decide), if_pos (by omega)]
  show xs[((-1 : Int) + (xs.length : Int)).toNat]? = some c
  have e : ((-1 : Int) + (xs.length : Int)).toNat = xs.length - 1 := by omega
  rw [e, ← List.getLast?_eq_getElem?]
  exact h
theorem valueIn_text {w : Str} (h : cutS w none (some 1) = ("'" : Str)) : valueIn w = optS (textIn w) := by
  unfold valueIn; rw [if_pos h]; cases textIn w <;> rfl
theorem valueIn_num {w : Str} (h : ¬ cutS w none (some 1) = ("'" : Str)) : valueIn w = optI (numberIn w) := by
  unfold valueIn; rw [if_neg h]; cases numberIn w <;> rfl
theorem strSub_len (x : Str) (i j : Nat) : (Builtin.Str.strSub x i j).length ≤ x.length := by
  have h : (Builtin.Str.strSub x i j).cps.toList = _ := TL.tl_strSub x i j
  rw [len_cps, h, List.length_take, List.length_drop, ← TL.len_tl]; omega
theorem empty_len : Str.empty.length = 0 := rfl
theorem part_len (a b : Str) : (Txt.partition a b).1.length ≤ a.length ∧ (Txt.partition a b).2.2.length ≤ a.length := by
  unfold Txt.partition
  cases Builtin.Str.occurrences a b 0 a.length 1 with
  | nil => exact ⟨Nat.le_refl _, by show Str.empty.length ≤ _; rw [empty_len]; omega⟩
  | cons i r => exact ⟨strSub_len _ _ _, strSub_len _ _ _⟩
theorem rpart_len (a b : Str) : (Txt.rpartition a b).1.length ≤ a.length ∧ (Txt.rpartition a b).2.2.length ≤ a.length := by
  unfold Txt.rpartition
  cases Builtin.Str.lastOccurrence a b 0 a.length with
  | none => exact ⟨by show Str.empty.length ≤ _; rw [empty_len]; omega, Nat.le_refl _⟩
  | some i => exact ⟨strSub_len _ _ _, strSub_len _ _ _⟩
theorem bareGo_len : ∀ (l : List Nat) (f : Str) (held : Bool) (g : Str), bareGo l f held = some g → g.length ≤ f.length + l.length
  | [], f, held, g, h => by
    unfold bareGo at h; split at h
    · cases h
    · cases h; exact Nat.le_refl _
  | c :: r, f, held, g, h => by
    unfold bareGo at h
    split at h
    · split at h
      · cases h
      · have := bareGo_len r _ _ g h
        have e : (f ++ (⟨#[c]⟩ : Str)).length = f.length + 1 := by
          rw [TL.len_tl, TL.tl_append, List.length_append, ← TL.len_tl]; rfl
        rw [e] at this; simp only [List.length_cons]; omega
    · split at h
      · have := bareGo_len r _ _ g h
        simp only [List.length_cons]; omega
      · cases h
theorem bareIn_len {q g : Str} (h : bareIn q = some g) : g.length ≤ q.length := by
  have := bareGo_len _ _ _ _ h
  have e : ("" : Str).length = 0 := by decide +kernel
  rw [e, Nat.zero_add, ← len_cps] at this; exact this
theorem lstrip_len (a b : Str) : (Txt.lstripChars a b).length ≤ a.length := by
  unfold Txt.lstripChars
  rw [PyProof.Rows.stripBy_eq]
  exact strSub_len _ _ _
def inBlocks : PD → Bool
  | .tup (.str s :: _) => inV (.str s) blocks
  | _ => false
def blanksOf (r : Str) : Int := (r.length : Int) - ((Txt.lstripChars r " ").length : Int)
def rowOne (r : Str) (most : Int) : Option (Int × PD) :=
  match stepIn (Txt.lstripChars r " ") with
  | .non => none
  | st => if decide (0 < blanksOf r % 2) || decide (most < blanksOf r / 2) then none else some (blanksOf r / 2, st)
def rowsGo : List Str → Int → Option (List (Int × PD))
  | [], _ => some []
  | r :: rs, most => match rowOne r most with
    | none => none
    | some (d, st) => match rowsGo rs (d + (if inBlocks st then 1 else 0)) with
      | none => none
      | some l => some ((d, st) :: l)
def entry (p : Int × PD) : PD := .tup [.int p.1, p.2]
/-- a step: a tuple that begins with a word, tuples all the way -/
def stepOk (d : PD) : Prop := d.fix = true ∧ ∃ s r, d = .tup (.str s :: r) ∧ r.length ≤ 10
theorem valueIn_fix (w : Str) : (valueIn w).fix = true := by
  unfold valueIn; split
  · cases textIn w <;> rfl
  · cases numberIn w <;> rfl
theorem setIn_ok (z : Str) : setIn z = .non ∨ stepOk (setIn z) := by
  unfold setIn
  simp only []
  have hf := valueIn_fix (Txt.rpartition (Txt.partition z " ").2.2 " ").1
  cases hv : valueIn (Txt.rpartition (Txt.partition z " ").2.2 " ").1 with
  | non => exact .inl rfl
  | _ =>
    rw [hv] at hf
    simp only []
    split
    · refine .inr ⟨?_, _, _, rfl, by simp⟩
      simp_all [PD.fix, PD.fixs]
    · exact .inl rfl
theorem stepIn_ok (z : Str) : stepIn z = .non ∨ stepOk (stepIn z) := by
  unfold stepIn
  simp only []
  split
  · exact setIn_ok _
  · split
    · exact .inr ⟨rfl, _, _, rfl, by simp⟩
    · split
      · exact .inr ⟨rfl, _, _, rfl, by simp⟩
      · exact .inl rfl
theorem rowOne_ok {r : Str} {most : Int} {d : Int} {st : PD} (h : rowOne r most = some (d, st)) : stepIn (Txt.lstripChars r " ") = st ∧ stepOk st ∧ d = blanksOf r / 2 ∧ ¬ 0 < blanksOf r % 2 ∧ ¬ most < blanksOf r / 2 := by
  unfold rowOne at h
  have ho := stepIn_ok (Txt.lstripChars r " ")
  split at h
  · cases h
  · rename_i st' hne
    split at h
    · cases h
    · rename_i hc
      simp only [Option.some.injEq, Prod.mk.injEq] at h
      obtain ⟨rfl, rfl⟩ := h
      refine ⟨rfl, ho.resolve_left hne, rfl, ?_, ?_⟩
      · simp only [Bool.or_eq_true, decide_eq_true_eq, not_or] at hc; exact hc.1
      · simp only [Bool.or_eq_true, decide_eq_true_eq, not_or] at hc; exact hc.2
/-- the program of read steps -/
def addW (st : PD) (w : List PD) : PD := match st with
  | .tup l => .tup (l ++ [.tup w])
  | d => d
def progAt : Nat → List (Int × PD) → Int → List PD × List (Int × PD)
  | _, [], _ => ([], [])
  | 0, l, _ => ([], l)
  | n + 1, (e, st) :: r, d =>
    if e = d then
      if inBlocks st then (addW st (progAt n r (d + 1)).1 :: (progAt n (progAt n r (d + 1)).2 d).1, (progAt n (progAt n r (d + 1)).2 d).2)
      else (st :: (progAt n r d).1, (progAt n r d).2)
    else ([], (e, st) :: r)
theorem progAt_suffix : ∀ (n : Nat) (l : List (Int × PD)) (d : Int), ∃ k, k ≤ l.length ∧ (progAt n l d).2 = l.drop k
  | n, [], d => ⟨0, Nat.le_refl _, by cases n <;> rfl⟩
  | 0, (e, st) :: r, d => ⟨0, Nat.zero_le _, rfl⟩
  | n + 1, (e, st) :: r, d => by
    unfold progAt
    split
    · split
      · obtain ⟨k1, h1, e1⟩ := progAt_suffix n r (d + 1)
        obtain ⟨k2, h2, e2⟩ := progAt_suffix n (progAt n r (d + 1)).2 d
        refine ⟨k1 + k2 + 1, ?_, ?_⟩
        · rw [e1, List.length_drop] at h2
          simp only [List.length_cons]; omega
        · simp only []
          rw [e2, e1, List.drop_drop, List.drop_succ_cons]
      · obtain ⟨k1, h1, e1⟩ := progAt_suffix n r d
        refine ⟨k1 + 1, by simp only [List.length_cons]; omega, ?_⟩
        simp only []
        rw [e1, List.drop_succ_cons]
    · exact ⟨0, Nat.zero_le _, rfl⟩
theorem progAt_fuel : ∀ (n : Nat) (l : List (Int × PD)) (d : Int), l.length ≤ n → ∀ m, l.length ≤ m → progAt n l d = progAt m l d
  | n, [], d, _, m, _ => by cases n <;> cases m <;> rfl
  | 0, (e, st) :: r, d, h, _, _ => by simp at h
  | n + 1, (e, st) :: r, d, h, 0, h' => by simp at h'
  | n + 1, (e, st) :: r, d, h, m + 1, h' => by
    have hr : r.length ≤ n := by simpa using h
    have hr' : r.length ≤ m := by simpa using h'
    unfold progAt
    rw [progAt_fuel n r d hr m hr', progAt_fuel n r (d + 1) hr m hr']
    obtain ⟨k, hk, e1⟩ := progAt_suffix m r (d + 1)
    have hl : (progAt m r (d + 1)).2.length ≤ r.length := by rw [e1, List.length_drop]; omega
    rw [progAt_fuel n (progAt m r (d + 1)).2 d (by omega) m (by omega)]
def progC (l : List (Int × PD)) (d : Int) : List PD × List (Int × PD) := progAt l.length l d
theorem progC_nil (d : Int) : progC [] d = ([], []) := rfl
theorem progC_other {e d : Int} {st : PD} {r : List (Int × PD)} (h : e ≠ d) : progC ((e, st) :: r) d = ([], (e, st) :: r) := by
  unfold progC; show progAt (r.length + 1) _ _ = _
  unfold progAt; rw [if_neg h]
theorem progC_plain {d : Int} {st : PD} {r : List (Int × PD)} (h : inBlocks st = false) : progC ((d, st) :: r) d = (st :: (progC r d).1, (progC r d).2) := by
  unfold progC; show progAt (r.length + 1) _ _ = _
  rw [progAt, if_pos rfl, if_neg (by rw [h]; exact Bool.false_ne_true)]
theorem progC_block {d : Int} {st : PD} {r : List (Int × PD)} (h : inBlocks st = true) : progC ((d, st) :: r) d = (addW st (progC r (d + 1)).1 :: (progC (progC r (d + 1)).2 d).1, (progC (progC r (d + 1)).2 d).2) := by
  unfold progC; show progAt (r.length + 1) _ _ = _
  rw [show progAt (r.length + 1) ((d, st) :: r) d = (addW st (progAt r.length r (d + 1)).1 :: (progAt r.length (progAt r.length r (d + 1)).2 d).1, (progAt r.length (progAt r.length r (d + 1)).2 d).2) by
    rw [progAt, if_pos rfl, if_pos h]]
  obtain ⟨k, hk, e1⟩ := progAt_suffix r.length r (d + 1)
  have hl : (progAt r.length r (d + 1)).2.length ≤ r.length := by rw [e1, List.length_drop]; omega
  rw [progAt_fuel r.length (progAt r.length r (d + 1)).2 d hl _ (Nat.le_refl _)]
theorem progC_suffix (l : List (Int × PD)) (d : Int) : ∃ k, k ≤ l.length ∧ (progC l d).2 = l.drop k := progAt_suffix _ _ _

theorem addW_fix {st : PD} {ws : List PD} (h : st.fix = true) (hw : PD.fixs ws = true) : (addW st ws).fix = true := by
  unfold addW
  split
  · simp only [PD.fix, fixs_append] at h ⊢
    simp [PD.fixs, PD.fix, h, hw]
  · exact h
theorem progAt_fix : ∀ (n : Nat) (l : List (Int × PD)) (d : Int), (∀ p ∈ l, p.2.fix = true) → PD.fixs (progAt n l d).1 = true
  | n, [], d, _ => by cases n <;> rfl
  | 0, (e, st) :: r, d, _ => rfl
  | n + 1, (e, st) :: r, d, h => by
    have hr : ∀ p ∈ r, p.2.fix = true := fun p hp => h p (List.mem_cons_of_mem _ hp)
    have hst : st.fix = true := h (e, st) List.mem_cons_self
    unfold progAt
    split
    · split
      · obtain ⟨k, hk, e1⟩ := progAt_suffix n r (d + 1)
        simp only [PD.fixs, Bool.and_eq_true]
        refine ⟨addW_fix hst (progAt_fix n r (d + 1) hr), progAt_fix n _ d fun p hp => hr p ?_⟩
        rw [e1] at hp
        exact List.mem_of_mem_drop hp
      · simp only [PD.fixs, Bool.and_eq_true]
        exact ⟨hst, progAt_fix n r d hr⟩
    · rfl
theorem progC_fix {l : List (Int × PD)} {d : Int} (h : ∀ p ∈ l, p.2.fix = true) : PD.fixs (progC l d).1 = true := progAt_fix _ _ _ h

/-! the sheet's part -/
def settingIn (row : Str) : PD :=
  let word := (Txt.partition row " ").1
  let rest := (Txt.partition row " ").2.2
  let name := (Txt.partition rest " ").1
  let more := (Txt.partition rest " ").2.1
  let written := (Txt.partition rest " ").2.2
  if (!decide (word = ("setting" : Str)) || !isName name) = true then .non
  else if more = (" " : Str) then (match valueIn written with
    | .non => .non
    | v => .tup [.str name, v])
  else .tup [.str name, .non]
def pickIn (w : Str) : Option Int := if figsOk w 4 && !(lead0 w && !decide (w = ("0" : Str))) then some ((NumText.digitsVal w.cps.toList : Nat) : Int) else none
def allSome : List (Option Int) → Option (List Int)
  | [] => some []
  | some i :: r => (allSome r).map (i :: ·)
  | none :: _ => none
def picksIn (row : Str) : Option (List Int) :=
  match Txt.split row " " with
  | [] => none
  | w0 :: r => if w0 = ("weave" : Str) then allSome (r.map pickIn) else none
def settingsIn : List Str → List PD
  | [] => []
  | r :: rs => match settingIn r with
    | .non => []
    | d => d :: settingsIn rs
def nameOf : PD → Str
  | .tup (.str s :: _) => s
  | _ => ""
/-- a step's name is told where it sets or looks -/
def stepNamed (names : List Str) (st : PD) : Bool := match st with
  | .tup (.str s :: r) => if inV (.str s) [.str "set", .str "look"] then (match r with
      | .str n :: _ => inV (.str n) (names.map V.str)
      | _ => false) else true
  | _ => false
def sheetFrom (t : Str) : Option (List PD × List Int × List PD) :=
  let rows := Txt.split t "\n"
  let sets := settingsIn rows
  match rows.drop sets.length with
  | [] => none
  | r :: rs => match picksIn r with
    | none => none
    | some ps => match rowsGo rs 0 with
      | none => none
      | some steps => if decide ((sets.map nameOf).Nodup) && steps.all (fun p => stepNamed (sets.map nameOf) p.2) then some (sets, ps, (progC steps 0).1) else none
theorem spl_ne (S : List Nat) : ∀ (l : List Nat) (k : Nat) (acc : List Nat), TL.spl S k acc l ≠ []
  | [], k, acc => by rw [TL.spl_nil]; simp
  | c :: r, k, acc => by
    cases k with
    | zero =>
      by_cases h : TL.pre S (c :: r) = true
      · rw [TL.spl_hit h]; simp
      · rw [TL.spl_miss (by simpa using h)]; exact spl_ne S r 0 _
    | succ k =>
      show TL.spl S k acc r ≠ []
      exact spl_ne S r k acc
theorem spl_len (S : List Nat) : ∀ (l : List Nat) (k : Nat) (acc : List Nat), ∀ p ∈ TL.spl S k acc l, p.length ≤ acc.length + l.length
  | [], k, acc, p, hp => by rw [TL.spl_nil] at hp; simp at hp; subst hp; simp
  | c :: r, k, acc, p, hp => by
    cases k with
    | zero =>
      by_cases h : TL.pre S (c :: r) = true
      · rw [TL.spl_hit h] at hp
        rcases List.mem_cons.mp hp with rfl | hp
        · simp
        · have := spl_len S r _ _ p hp
          simp only [List.length_nil, List.length_cons] at this ⊢; omega
      · rw [TL.spl_miss (by simpa using h)] at hp
        have := spl_len S r _ _ p hp
        simp only [List.length_append, List.length_cons, List.length_nil] at this ⊢; omega
    | succ k =>
      have := spl_len S r k acc p hp
      simp only [List.length_cons]; omega
theorem spl_many (S : List Nat) : ∀ (l : List Nat) (k : Nat) (acc : List Nat), (TL.spl S k acc l).length ≤ l.length + 1
  | [], k, acc => by rw [TL.spl_nil]; simp
  | c :: r, k, acc => by
    cases k with
    | zero =>
      by_cases h : TL.pre S (c :: r) = true
      · rw [TL.spl_hit h]
        have := spl_many S r (S.length - 1) []
        simp only [List.length_cons]; omega
      · rw [TL.spl_miss (by simpa using h)]
        have := spl_many S r 0 (acc ++ [c])
        simp only [List.length_cons]; omega
    | succ k =>
      have := spl_many S r k acc
      simp only [List.length_cons]
      show (TL.spl S k acc r).length ≤ _
      omega
theorem split_facts {x y : Str} (hy : TL.tl y ≠ []) (hk : y.cps.all (· < 256) = true) : Txt.split x y ≠ [] ∧ (∀ p ∈ Txt.split x y, p.length ≤ x.length) ∧ (Txt.split x y).length ≤ x.length + 1 := by
  have e := TL.split_spl x y hy (TL.kind_ok hk)
  refine ⟨fun h => ?_, fun p hp => ?_, ?_⟩
  · rw [h] at e; exact spl_ne _ _ _ _ e.symm
  · have := spl_len (TL.tl y) (TL.tl x) 0 [] (TL.tl p) (by rw [← e]; exact List.mem_map_of_mem hp)
    rw [TL.len_tl, TL.len_tl x]; simpa using this
  · have := spl_many (TL.tl y) (TL.tl x) 0 []
    rw [← e, List.length_map] at this
    rw [TL.len_tl]; exact this
theorem split_blank (x : Str) : Txt.split x " " ≠ [] ∧ (∀ p ∈ Txt.split x " ", p.length ≤ x.length) ∧ (Txt.split x " ").length ≤ x.length + 1 := split_facts (by decide +kernel) (by decide +kernel)
theorem split_line (x : Str) : Txt.split x "\n" ≠ [] ∧ (∀ p ∈ Txt.split x "\n", p.length ≤ x.length) ∧ (Txt.split x "\n").length ≤ x.length + 1 := split_facts (by decide +kernel) (by decide +kernel)
theorem pick_reads {w : Str} (h : figsOk w 4 = true) : intText? w = some ((NumText.digitsVal w.cps.toList : Nat) : Int) ∧ w.length ≤ 640 := by
  obtain ⟨h1, h2, h3⟩ := figs_digits h
  exact ⟨PySem.intText_digits h1 h2 (by omega), by omega⟩
theorem settingIn_ok (row : Str) : settingIn row = .non ∨ ∃ s v, settingIn row = .tup [.str s, v] ∧ v.fix = true := by
  unfold settingIn
  simp only []
  split
  · exact .inl rfl
  · split
    · have hf := valueIn_fix (Txt.partition (Txt.partition row " ").2.2 " ").2.2
      cases hv : valueIn (Txt.partition (Txt.partition row " ").2.2 " ").2.2 with
      | non => exact .inl rfl
      | _ => rw [hv] at hf; exact .inr ⟨_, _, rfl, hf⟩
    · exact .inr ⟨_, _, rfl, rfl⟩
end RS
set_option Elab.async false
set_option linter.all false
set_option maxRecDepth 100000
set_option maxHeartbeats 4000000
/-! Nam: plain laws of names and values -/
namespace RS
open PySem L2
theorem lets_at : ∀ i : Fin 26, LETS.cps.toList[i.val]? = some (97 + i.val) := by decide +kernel
theorem let_at {v : Int} (h0 : 0 ≤ v) (h1 : v < 26) : atI LETS.cps.toList v = some (97 + v.toNat) := by
  have e : v = ((v.toNat : Nat) : Int) := by omega
  rw [e]
  exact atI_nat' (lets_at ⟨v.toNat, by omega⟩)
theorem lets_mem : ∀ c : Nat, 97 ≤ c ∧ c ≤ 122 → c ∈ LETS.cps.toList := by
  have e : LETS.cps.toList = List.range' 97 26 := by decide +kernel
  intro c h; rw [e]; simp [List.mem_range']; exact ⟨c - 97, by omega, by omega⟩
def Lets (l : List Nat) : Prop := ∀ c ∈ l, 97 ≤ c ∧ c ≤ 122
theorem isName_of {s : Str} (h1 : 1 ≤ (TL.tl s).length) (h8 : (TL.tl s).length ≤ 8) (hl : Lets (TL.tl s)) : isName s = true := by
  have hl' : s.length = (TL.tl s).length := TL.len_tl s
  unfold isName
  rw [decide_eq_true (by omega), decide_eq_true (by omega)]
  simp only [Bool.true_and, List.all_eq_true, List.mem_map, forall_exists_index, and_imp, forall_apply_eq_imp_iff₂, id]
  exact fun c hc => decide_eq_true (lets_mem c (hl c hc))
theorem lets_of_mem : ∀ c : Nat, c ∈ LETS.cps.toList → 97 ≤ c ∧ c ≤ 122 := by
  have e : LETS.cps.toList = List.range' 97 26 := by decide +kernel
  intro c h; rw [e] at h; simp [List.mem_range'] at h; omega
theorem isName_open {s : Str} (h : isName s = true) : 1 ≤ (TL.tl s).length ∧ (TL.tl s).length ≤ 8 ∧ Lets (TL.tl s) := by
  have hl' : s.length = (TL.tl s).length := TL.len_tl s
  simp only [isName, Bool.and_eq_true, decide_eq_true_eq, List.all_eq_true, List.mem_map, forall_exists_index, and_imp, forall_apply_eq_imp_iff₂, id] at h
  obtain ⟨h1, h2, h3⟩ := h
  exact ⟨by omega, by omega, fun c hc => lets_of_mem c (h3 c hc)⟩
theorem joinL_nil : ∀ (ls : List (List Nat)), TL.joinL [] ls = ls.flatten
  | [] => rfl
  | [a] => by simp [TL.joinL]
  | a :: b :: r => by
    show a ++ ([] ++ TL.joinL [] (b :: r)) = _
    rw [joinL_nil (b :: r)]; simp
theorem tl_empty : TL.tl ("" : Str) = [] := by decide +kernel
theorem join_tl (parts : List Str) : TL.tl (Txt.join "" parts) = (parts.map TL.tl).flatten := by
  rw [TL.join_eq, TL.tl_join, tl_empty, joinL_nil]
theorem join_signs (cs : List Nat) : TL.tl (Txt.join "" (cs.map fun c => (⟨#[c]⟩ : Str))) = cs := by
  rw [join_tl, List.map_map]
  induction cs with
  | nil => rfl
  | cons a r ih => simp only [List.map_cons, List.flatten_cons, ih]; rfl
theorem tl_cut_to (z : Str) (i : Nat) : TL.tl (cutS z none (some (i : Int))) = (TL.tl z).take i := by
  unfold cutS
  have e0 : HT.sIx z.length z.length (some (i : Int)) = min i z.length := HT.sIx_nat z.length z.length i
  rw [e0, HT.sIx_none]
  show ((TL.tl z).drop 0).take _ = _
  rw [List.drop_zero, Nat.sub_zero, TL.len_tl]
  by_cases h : i ≤ (TL.tl z).length
  · rw [Nat.min_eq_left h]
  · rw [Nat.min_eq_right (by omega), List.take_length, List.take_of_length_le (by omega)]
theorem tl_cut_from (z : Str) (i : Nat) : TL.tl (cutS z (some (i : Int)) none) = (TL.tl z).drop i := by
  unfold cutS
  have e0 : HT.sIx z.length 0 (some (i : Int)) = min i z.length := HT.sIx_nat z.length 0 i
  rw [e0, HT.sIx_none]
  show ((TL.tl z).drop _).take _ = _
  rw [TL.len_tl]
  by_cases h : i ≤ (TL.tl z).length
  · rw [Nat.min_eq_left h]
    apply List.take_of_length_le; rw [List.length_drop]; omega
  · rw [List.drop_eq_nil_of_le (show (TL.tl z).length ≤ i by omega), List.drop_eq_nil_of_le (show (TL.tl z).length ≤ min i (TL.tl z).length by omega)]; simp
/-- the k-th name of a stem -/
def nameAt (stem : Str) (at_ : Int) (v : Int) : Str :=
  (cutS stem none (some at_) ++ (⟨#[97 + (v / 26).toNat]⟩ : Str) ++ (⟨#[97 + (v % 26).toNat]⟩ : Str)) ++ cutS stem (some at_) none
theorem tl_nameAt (stem : Str) (a : Nat) (v : Int) : TL.tl (nameAt stem (a : Int) v) = (TL.tl stem).take a ++ ([97 + (v / 26).toNat, 97 + (v % 26).toNat] ++ (TL.tl stem).drop a) := by
  unfold nameAt
  rw [TL.tl_append, TL.tl_append, TL.tl_append, tl_cut_to, tl_cut_from]
  show (_ ++ [97 + (v / 26).toNat]) ++ [97 + (v % 26).toNat] ++ _ = _
  simp
theorem nameAt_name {stem : Str} {a : Nat} {v : Int} (hs : Lets (TL.tl stem)) (h6 : (TL.tl stem).length ≤ 6) (h0 : 0 ≤ v) (h1 : v < 676) : isName (nameAt stem (a : Int) v) = true := by
  have e := tl_nameAt stem a v
  have l : (TL.tl (nameAt stem (a : Int) v)).length = (TL.tl stem).length + 2 := by
    rw [e]; simp only [List.length_append, List.length_take, List.length_drop, List.length_cons, List.length_nil]; omega
  refine isName_of (by omega) (by omega) ?_
  intro c hc
  rw [e] at hc
  rcases List.mem_append.mp hc with hc | hc
  · exact hs c (List.mem_of_mem_take hc)
  · rcases List.mem_append.mp hc with hc | hc
    · simp only [List.mem_cons, List.not_mem_nil, or_false] at hc
      rcases hc with rfl | rfl <;> omega
    · exact hs c (List.mem_of_mem_drop hc)
theorem nameAt_inj {stem : Str} {a : Nat} {v u : Int} (h0 : 0 ≤ v) (h1 : v < 676) (k0 : 0 ≤ u) (k1 : u < 676) (h : nameAt stem (a : Int) v = nameAt stem (a : Int) u) : v = u := by
  have e := congrArg TL.tl h
  rw [tl_nameAt, tl_nameAt] at e
  have e1 := List.append_cancel_left e
  simp only [List.cons_append, List.nil_append, List.cons.injEq] at e1
  omega
def namesOf (stem : Str) (a : Nat) (first step : Int) (many : Nat) : List Str := (List.range many).map fun (k : Nat) => nameAt stem (a : Int) ((first + step * (k : Int)) % 676)
theorem namesOf_nodup {stem : Str} {a : Nat} {first step : Int} {many : Nat} (hs : step = 1 ∨ step = 27 ∨ step = 5 ∨ step = 251) (hm : many ≤ 100) : (namesOf stem a first step many).Nodup := by
  unfold namesOf
  rw [List.nodup_iff_pairwise_ne, List.pairwise_map]
  have := List.nodup_range (n := many)
  rw [List.nodup_iff_pairwise_ne] at this
  refine this.imp_of_mem ?_
  intro i j hi hj hij h
  have h2 := nameAt_inj (by omega) (by omega) (by omega) (by omega) h
  rw [List.mem_range] at hi hj
  rcases hs with rfl | rfl | rfl | rfl <;> omega
theorem namesOf_name {stem : Str} {a : Nat} {first step : Int} {many : Nat} (hs : Lets (TL.tl stem)) (h6 : (TL.tl stem).length ≤ 6) : ∀ s ∈ namesOf stem a first step many, isName s = true := by
  intro s h
  obtain ⟨k, _, rfl⟩ := List.mem_map.mp h
  exact nameAt_name hs h6 (by omega) (by omega)
/-- a value as the law draws it -/
def wfVal : PD → Prop
  | .int i => -(10 ^ 30) < i ∧ i < 10 ^ 30
  | .str s => (TL.tl s).length ≤ 40 ∧ ∀ c ∈ TL.tl s, 32 ≤ c ∧ c ≤ 126
  | _ => False
theorem atI_mem {α : Type} {xs : List α} {v : Int} (h0 : 0 ≤ v) (h1 : v < xs.length) : ∃ x, x ∈ xs ∧ atI xs v = some x := by
  obtain ⟨k, rfl⟩ : ∃ k : Nat, v = (k : Int) := ⟨v.toNat, by omega⟩
  exact ⟨xs[k]'(by omega), List.getElem_mem _, atI_nat' (List.getElem?_eq_getElem _)⟩
end RS
set_option Elab.async false
set_option linter.all false
set_option maxRecDepth 100000
set_option maxHeartbeats 4000000
/-! Flat: a program and its rows -/
namespace RS
open PySem L2
inductive WfSt (nm : List Str) : PD → Prop
  | set {n s : Str} {v : PD} : n ∈ nm → isName s = true → wfVal v → WfSt nm (.tup [.str "set", .str n, v, .str s])
  | look {n : Str} : n ∈ nm → WfSt nm (.tup [.str "look", .str n])
  | back {s : Str} : isName s = true → WfSt nm (.tup [.str "back", .str s])
  | copy {s : Str} : isName s = true → WfSt nm (.tup [.str "copy", .str s])
  | pass_ : WfSt nm (.tup [.str "pass"])
  | begin_ : WfSt nm (.tup [.str "begin"])
  | late : WfSt nm (.tup [.str "late"])
  | inn {s : Str} : isName s = true → WfSt nm (.tup [.str "in", .str s])
inductive Flat (nm : List Str) : Int → List PD → List (Int × PD) → Prop
  | nil {d : Int} : Flat nm d [] []
  | plain {d : Int} {st : PD} {pr : List PD} {l : List (Int × PD)} : WfSt nm st → inBlocks st = false → Flat nm d pr l → Flat nm d (st :: pr) ((d, st) :: l)
  | block {d : Int} {st : PD} {body pr : List PD} {lb l : List (Int × PD)} : WfSt nm st → inBlocks st = true → Flat nm (d + 1) body lb → Flat nm d pr l → Flat nm d (addW st body :: pr) ((d, st) :: (lb ++ l))
theorem Flat.append {nm : List Str} {d : Int} {p1 p2 : List PD} {l1 l2 : List (Int × PD)} (h1 : Flat nm d p1 l1) (h2 : Flat nm d p2 l2) : Flat nm d (p1 ++ p2) (l1 ++ l2) := by
  induction h1 with
  | nil => exact h2
  | plain w b _ ih => exact .plain w b (ih h2)
  | block w b hb _ _ ih => rw [List.cons_append, List.cons_append, List.append_assoc]; exact .block w b hb (ih h2)
theorem WfSt.fix {nm : List Str} {st : PD} (h : WfSt nm st) : st.fix = true := by
  cases h with
  | @set n s v h1 h2 h3 => cases v <;> first | rfl | exact h3.elim
  | _ => rfl
theorem Flat.fixs {nm : List Str} {d : Int} {p : List PD} {l : List (Int × PD)} (h : Flat nm d p l) : PD.fixs p = true := by
  induction h with
  | nil => rfl
  | plain w b _ ih => simp only [PD.fixs, w.fix, ih, Bool.and_self]
  | block w b _ _ ihb ih => simp only [PD.fixs, ih, addW_fix w.fix ihb, Bool.and_self]
def WfP (nm : List Str) (k m : Nat) (p : List PD) : Prop := ∀ d : Int, ∃ l, Flat nm d p l ∧ l.length ≤ m ∧ ∀ q ∈ l, q.1 ≤ d + (k : Int)
theorem WfP.nil {nm : List Str} {k m : Nat} : WfP nm k m [] := fun d => ⟨[], .nil, Nat.zero_le _, fun q h => nomatch h⟩
theorem WfP.append {nm : List Str} {k m1 m2 : Nat} {p1 p2 : List PD} (h1 : WfP nm k m1 p1) (h2 : WfP nm k m2 p2) : WfP nm k (m1 + m2) (p1 ++ p2) := fun d => by
  obtain ⟨l1, f1, e1, q1⟩ := h1 d
  obtain ⟨l2, f2, e2, q2⟩ := h2 d
  refine ⟨l1 ++ l2, f1.append f2, by rw [List.length_append]; omega, fun q h => ?_⟩
  rcases List.mem_append.mp h with h | h
  · exact q1 q h
  · exact q2 q h
theorem WfP.one {nm : List Str} {k : Nat} {st : PD} (w : WfSt nm st) (b : inBlocks st = false) : WfP nm k 1 [st] := fun d =>
  ⟨[(d, st)], .plain w b .nil, Nat.le_refl _, fun q h => by rcases List.mem_cons.mp h with rfl | h; exact (by show d ≤ d + (k : Int); omega); exact nomatch h⟩
theorem WfP.blk {nm : List Str} {k m : Nat} {st : PD} {body : List PD} (w : WfSt nm st) (b : inBlocks st = true) (h : WfP nm k m body) : WfP nm (k + 1) (m + 1) [addW st body] := fun d => by
  obtain ⟨l, f, e, q⟩ := h (d + 1)
  refine ⟨(d, st) :: (l ++ []), .block w b f .nil, by simp; omega, fun p hp => ?_⟩
  rcases List.mem_cons.mp hp with rfl | hp
  · show d ≤ _; omega
  · rw [List.append_nil] at hp; have := q p hp; omega
theorem WfP.mono {nm : List Str} {k m k' m' : Nat} {p : List PD} (h : WfP nm k m p) (hk : k ≤ k') (hm : m ≤ m') : WfP nm k' m' p := fun d => by
  obtain ⟨l, f, e, q⟩ := h d
  exact ⟨l, f, by omega, fun p hp => by have := q p hp; omega⟩
theorem WfP.fixs {nm : List Str} {k m : Nat} {p : List PD} (h : WfP nm k m p) : PD.fixs p = true := by obtain ⟨l, f, _⟩ := h 0; exact f.fixs
/-! the written rows -/
def escL (c : Nat) : List Nat := if c = 39 ∨ c = 92 then [92, c] else [c]
def writtenOf : PD → Str
  | .int i => Str.ofString (toString i)
  | .str s => ("'" : Str) ++ ⟨((TL.tl s).flatMap escL).toArray⟩ ++ ("'" : Str)
  | _ => ""
def strsOf : List PD → List Str
  | [] => []
  | .str s :: r => s :: strsOf r
  | _ :: r => strsOf r
def wordsOf : PD → List Str
  | .tup [.str w, .str n, v, .str s] => [w, n, writtenOf v, s]
  | .tup l => strsOf l
  | _ => []
def rowText (p : Int × PD) : Str := Txt.mul " " (2 * p.1) ++ Txt.join " " (wordsOf p.2)
theorem foldl_app (a : List Nat) : ∀ (n : Nat) (b : Array Nat), (List.foldl (fun x1 x2 => x1 ++ x2) b (List.replicate n a.toArray)).toList = b.toList ++ (List.replicate n a).flatten
  | 0, b => by simp
  | n + 1, b => by
    rw [List.replicate_succ, List.foldl_cons, foldl_app a n]
    simp [List.replicate_succ]
theorem tl_mul (x : Str) (n : Int) : TL.tl (Txt.mul x n) = (List.replicate n.toNat (TL.tl x)).flatten := by
  unfold Txt.mul
  split
  · rename_i h
    rw [show n.toNat = 0 by omega]; rfl
  · split
    · rename_i h
      simp only [Bool.or_eq_true, beq_iff_eq] at h
      rcases h with h | h
      · subst h; simp [List.replicate]
      · have : TL.tl x = [] := (TL.len0_tl x).mp h
        rw [this]; simp
    · have := foldl_app (TL.tl x) n.toNat #[]
      rw [show (TL.tl x).toArray = x.cps from rfl] at this
      simpa using this
theorem tl_blank : TL.tl (" " : Str) = [32] := by decide +kernel
theorem tl_blanks (k : Nat) : TL.tl (Txt.mul " " (k : Int)) = List.replicate k 32 := by
  rw [tl_mul, tl_blank]
  rw [show ((k : Int)).toNat = k from rfl]
  induction k with
  | zero => rfl
  | succ k ih => rw [List.replicate_succ, List.flatten_cons, ih, List.replicate_succ]; rfl
theorem neg_text (n : Nat) (h : n ≠ 0) : TL.tl (Str.ofString (toString (-((n : Nat) : Int)))) = 45 :: TL.numL n := by
  obtain ⟨m, rfl⟩ : ∃ m, n = m + 1 := ⟨n - 1, by omega⟩
  have e : (-((m + 1 : Nat) : Int)) = Int.negSucc m := rfl
  rw [e, TL.tl_ofString]
  show (String.toList ("-" ++ (toString (m + 1)))).map Char.toNat = _
  rw [String.toList_append, List.map_append]
  have h2 := TL.tl_num (m + 1)
  rw [TL.tl_ofString] at h2
  show [45] ++ _ = _
  show _ = [45] ++ TL.numL (m + 1)
  rw [← h2]; rfl
theorem int_forms (i : Int) : (∃ n : Nat, i = (n : Int) ∧ TL.tl (writtenOf (.int i)) = TL.numL n) ∨ (∃ n : Nat, n ≠ 0 ∧ i = -(n : Int) ∧ TL.tl (writtenOf (.int i)) = 45 :: TL.numL n) := by
  by_cases h : 0 ≤ i
  · obtain ⟨n, rfl⟩ := Int.eq_ofNat_of_zero_le h
    exact .inl ⟨n, rfl, TL.tl_num n⟩
  · refine .inr ⟨(-i).toNat, by omega, by omega, ?_⟩
    have := neg_text (-i).toNat (by omega)
    rw [show -(((-i).toNat : Nat) : Int) = i by omega] at this
    exact this
theorem esc_le : ∀ (l : List Nat), (l.flatMap escL).length ≤ 2 * l.length
  | [] => by simp
  | a :: r => by
    have := esc_le r
    rw [List.flatMap_cons, List.length_append, List.length_cons]
    have h : (escL a).length ≤ 2 := by unfold escL; split <;> simp
    omega
theorem tl_quote : TL.tl ("'" : Str) = [39] := by decide +kernel
theorem tl_writtenS (s : Str) : TL.tl (writtenOf (.str s)) = 39 :: ((TL.tl s).flatMap escL ++ [39]) := by
  show TL.tl (("'" : Str) ++ ⟨((TL.tl s).flatMap escL).toArray⟩ ++ ("'" : Str)) = _
  rw [TL.tl_append, TL.tl_append, tl_quote]; simp
theorem written_len {v : PD} (h : wfVal v) : (writtenOf v).length ≤ 100 := by
  cases v with
  | int i =>
    obtain ⟨h1, h2⟩ := h
    rw [TL.len_tl]
    rcases int_forms i with ⟨n, rfl, e⟩ | ⟨n, h0, rfl, e⟩
    · rw [e]; have := TL.numL_len (n := n) (k := 30) (by omega) (by omega); omega
    · rw [e]; have := TL.numL_len (n := n) (k := 30) (by omega) (by omega); simp only [List.length_cons]; omega
  | str s =>
    rw [TL.len_tl, tl_writtenS]
    have := esc_le (TL.tl s)
    have := h.1
    simp only [List.length_cons, List.length_append, List.length_nil]; omega
  | _ => exact h.elim
/-- the words of a step are few and short -/
theorem words_small {nm : List Str} {st : PD} (h : WfSt nm st) (hn : ∀ n ∈ nm, isName n = true) : (wordsOf st).length ≤ 4 ∧ ((wordsOf st).map (·.length)).sum ≤ 200 := by
  have nl : ∀ {s : Str}, isName s = true → s.length ≤ 8 := fun h => by rw [TL.len_tl]; exact (isName_open h).2.1
  have k1 : ("set" : Str).length = 3 := by decide +kernel
  have k2 : ("look" : Str).length = 4 := by decide +kernel
  have k3 : ("back" : Str).length = 4 := by decide +kernel
  have k4 : ("copy" : Str).length = 4 := by decide +kernel
  have k5 : ("pass" : Str).length = 4 := by decide +kernel
  have k6 : ("begin" : Str).length = 5 := by decide +kernel
  have k7 : ("late" : Str).length = 4 := by decide +kernel
  have k8 : ("in" : Str).length = 2 := by decide +kernel
  cases h with
  | set h1 h2 h3 =>
    have := nl (hn _ h1); have := nl h2; have := written_len h3
    simp only [wordsOf, List.length_cons, List.length_nil, List.map_cons, List.map_nil, List.sum_cons, List.sum_nil]; omega
  | look h1 => have := nl (hn _ h1); simp only [wordsOf, strsOf, List.length_cons, List.length_nil, List.map_cons, List.map_nil, List.sum_cons, List.sum_nil]; omega
  | back h1 => have := nl h1; simp only [wordsOf, strsOf, List.length_cons, List.length_nil, List.map_cons, List.map_nil, List.sum_cons, List.sum_nil]; omega
  | copy h1 => have := nl h1; simp only [wordsOf, strsOf, List.length_cons, List.length_nil, List.map_cons, List.map_nil, List.sum_cons, List.sum_nil]; omega
  | inn h1 => have := nl h1; simp only [wordsOf, strsOf, List.length_cons, List.length_nil, List.map_cons, List.map_nil, List.sum_cons, List.sum_nil]; omega
  | _ => simp only [wordsOf, strsOf, List.length_cons, List.length_nil, List.map_cons, List.map_nil, List.sum_cons, List.sum_nil]; omega
theorem joinL_len (S : List Nat) : ∀ (ls : List (List Nat)), (TL.joinL S ls).length ≤ (ls.map List.length).sum + ls.length * S.length
  | [] => by simp [TL.joinL]
  | [a] => by simp [TL.joinL]
  | a :: b :: r => by
    have := joinL_len S (b :: r)
    have e : TL.joinL S (a :: b :: r) = a ++ (S ++ TL.joinL S (b :: r)) := rfl
    rw [e]
    simp only [List.length_append, List.map_cons, List.sum_cons, List.length_cons, Nat.succ_mul] at this ⊢
    omega
theorem join_len (y : Str) (ls : List Str) : (Txt.join y ls).length ≤ (ls.map (·.length)).sum + ls.length * y.length := by
  rw [TL.len_tl, TL.join_eq, TL.tl_join]
  have := joinL_len (TL.tl y) (ls.map TL.tl)
  rw [List.map_map, List.length_map] at this
  rw [TL.len_tl y]
  have e : (ls.map (List.length ∘ TL.tl)) = ls.map (·.length) := List.map_congr_left fun a _ => (TL.len_tl a).symm
  rw [e] at this
  exact this
/-! the sheet's text -/
def setRow : PD → Str
  | .tup [.str n, .non] => ("setting " : Str) ++ n ++ ("" : Str)
  | .tup [.str n, v] => ("setting " : Str) ++ n ++ ((" " : Str) ++ writtenOf v)
  | _ => ""
def weaveRow (ps : List Int) : Str := Txt.join " " (("weave" : Str) :: ps.map fun i => Str.ofString (toString i))
def textRows (sets : List PD) (ps : List Int) (l : List (Int × PD)) : List Str := sets.map setRow ++ [weaveRow ps] ++ l.map rowText
def sheetText (sets : List PD) (ps : List Int) (l : List (Int × PD)) : Str := Txt.join "\n" (textRows sets ps l)
def WfSet (d : PD) : Prop := ∃ n v, d = .tup [.str n, v] ∧ isName n = true ∧ (v = .non ∨ wfVal v)
structure WfSh (sets : List PD) (ps : List Int) (prog : List PD) : Prop where
  wset : ∀ d ∈ sets, WfSet d
  few : sets.length ≤ 60
  nd : (sets.map nameOf).Nodup
  wpick : ∀ p ∈ ps, 0 ≤ p ∧ p < 10000
  fewp : ps.length ≤ 300
  wprog : WfP (sets.map nameOf) 6 150 prog
theorem WfSet.fix {d : PD} (h : WfSet d) : d.fix = true := by
  obtain ⟨n, v, rfl, _, h⟩ := h
  rcases h with rfl | h
  · rfl
  · cases v <;> first | rfl | exact h.elim
theorem setRow_val {n : Str} {v : PD} (h : wfVal v) : setRow (.tup [.str n, v]) = ("setting " : Str) ++ n ++ ((" " : Str) ++ writtenOf v) := by
  cases v <;> first | rfl | exact h.elim
theorem len_app (a b : Str) : (a ++ b).length = a.length + b.length := by rw [TL.len_tl, TL.tl_append, List.length_append, ← TL.len_tl, ← TL.len_tl]
theorem setRow_len {d : PD} (h : WfSet d) : (setRow d).length ≤ 200 := by
  obtain ⟨n, v, rfl, hn, h⟩ := h
  have l1 : ("setting " : Str).length = 8 := by decide +kernel
  have l2 : ("" : Str).length = 0 := by decide +kernel
  have l3 : (" " : Str).length = 1 := by decide +kernel
  have l4 : n.length ≤ 8 := by rw [TL.len_tl]; exact (isName_open hn).2.1
  rcases h with rfl | h
  · show (("setting " : Str) ++ n ++ ("" : Str)).length ≤ 200
    rw [len_app, len_app]; omega
  · rw [setRow_val h, len_app, len_app, len_app]
    have := written_len h
    omega
theorem sum_le {α : Type} {f : α → Nat} {B : Nat} : ∀ {l : List α}, (∀ x ∈ l, f x ≤ B) → (l.map f).sum ≤ l.length * B
  | [], _ => by simp
  | a :: r, h => by
    have h1 := h a List.mem_cons_self
    have h2 := sum_le fun x hx => h x (List.mem_cons_of_mem _ hx)
    rw [List.map_cons, List.sum_cons, List.length_cons, Nat.succ_mul]; omega
theorem pick_len {i : Int} (h : 0 ≤ i ∧ i < 10000) : (Str.ofString (toString i)).length ≤ 4 := by
  obtain ⟨n, rfl⟩ := Int.eq_ofNat_of_zero_le h.1
  rw [TL.len_tl, TL.tl_num]
  exact TL.numL_len (by omega) (by omega)
theorem weaveRow_len {ps : List Int} (h : ∀ p ∈ ps, 0 ≤ p ∧ p < 10000) (hl : ps.length ≤ 300) : (weaveRow ps).length ≤ 2000 := by
  have := join_len " " (("weave" : Str) :: ps.map fun i => Str.ofString (toString i))
  rw [List.map_cons, List.sum_cons, List.map_map, List.length_cons, List.length_map, show (" " : Str).length = 1 by decide +kernel, show ("weave" : Str).length = 5 by decide +kernel] at this
  have h2 : (ps.map (Str.length ∘ fun i => Str.ofString (toString i))).sum ≤ ps.length * 4 := sum_le fun x hx => pick_len (h x hx)
  unfold weaveRow
  have h3 : (ps.map ((fun x => x.length) ∘ fun i => Str.ofString (toString i))) = (ps.map (Str.length ∘ fun i => Str.ofString (toString i))) := rfl
  rw [h3] at this
  omega
theorem Flat.steps {nm : List Str} {d : Int} {p : List PD} {l : List (Int × PD)} (h : Flat nm d p l) : ∀ q ∈ l, WfSt nm q.2 ∧ d ≤ q.1 := by
  induction h with
  | nil => exact fun q h => nomatch h
  | plain w b _ ih =>
    intro q hq
    rcases List.mem_cons.mp hq with rfl | hq
    · exact ⟨w, Int.le_refl _⟩
    · exact ih q hq
  | block w b _ _ ihb ih =>
    intro q hq
    rcases List.mem_cons.mp hq with rfl | hq
    · exact ⟨w, Int.le_refl _⟩
    · rcases List.mem_append.mp hq with hq | hq
      · have := ihb q hq; exact ⟨this.1, by omega⟩
      · exact ih q hq
theorem rowText_len {nm : List Str} {d : Int} {st : PD} (w : WfSt nm st) (hn : ∀ n ∈ nm, isName n = true) (h0 : 0 ≤ d) (h6 : d ≤ 20) : (rowText (d, st)).length ≤ 300 := by
  obtain ⟨h1, h2⟩ := words_small w hn
  have jl := join_len " " (wordsOf st)
  rw [show (" " : Str).length = 1 by decide +kernel] at jl
  obtain ⟨k, rfl⟩ := Int.eq_ofNat_of_zero_le h0
  unfold rowText
  rw [len_app, show 2 * (k : Int) = ((2 * k : Nat) : Int) by omega]
  have ml : (Txt.mul " " ((2 * k : Nat) : Int)).length = 2 * k := by rw [TL.len_tl, tl_blanks, List.length_replicate]
  show (Txt.mul " " ((2 * k : Nat) : Int)).length + (Txt.join " " (wordsOf st)).length ≤ 300
  omega
end RS
set_option Elab.async false
set_option linter.all false
set_option maxRecDepth 100000
set_option maxHeartbeats 4000000
/-! M1: texts cut at blanks -/
namespace RS
open PySem L2
theorem tl_str (l : List Nat) : TL.tl (⟨l.toArray⟩ : Str) = l := rfl
theorem rpart_app {a b : Str} (h : ¬ 32 ∈ TL.tl b) : Txt.rpartition (a ++ (" " : Str) ++ b) " " = (a, (" " : Str), b) := by
  have tb := tl_blank
  have hx : TL.tl (a ++ " " ++ b) = TL.tl a ++ (32 :: TL.tl b) := by rw [TL.tl_append, TL.tl_append, tb]; simp
  have hy : TL.tl (" " : Str) ≠ [] := by rw [tb]; simp
  have hl : (a ++ " " ++ b).length = (TL.tl a).length + (TL.tl b).length + 1 := by rw [TL.len_tl, hx, List.length_append, List.length_cons]; omega
  have hat : ∀ i, PySem.StrLaws.At (a ++ " " ++ b) " " (a ++ " " ++ b).length i ↔ (TL.tl a ++ (32 :: TL.tl b))[i]? = some 32 := by
    intro i
    rw [TL.at_iff hy, tb, hx]
    unfold TL.pre
    cases hd : (TL.tl a ++ (32 :: TL.tl b)).drop i with
    | nil =>
      have : (TL.tl a ++ (32 :: TL.tl b))[i]? = none := by
        rw [List.getElem?_eq_none_iff]
        have := congrArg List.length hd
        rw [List.length_drop, List.length_nil] at this; omega
      rw [this]; simp
    | cons c r =>
      have : (TL.tl a ++ (32 :: TL.tl b))[i]? = some c := by
        have := congrArg (fun l => l[0]?) hd
        simpa using this
      rw [this]; simp
  have hmid : (TL.tl a ++ (32 :: TL.tl b))[(TL.tl a).length]? = some 32 := by simp
  have hlate : ∀ k, (TL.tl a).length < k → ¬ (TL.tl a ++ (32 :: TL.tl b))[k]? = some 32 := by
    intro k hk e
    rw [List.getElem?_append_right (by omega)] at e
    obtain ⟨j, hj⟩ : ∃ j, k - (TL.tl a).length = j + 1 := ⟨k - (TL.tl a).length - 1, by omega⟩
    rw [hj, List.getElem?_cons_succ] at e
    exact h (List.mem_of_getElem? e)
  rcases PySem.StrLaws.last_spec (a ++ " " ++ b) " " with ⟨_, h2⟩ | ⟨i, h1, h2, h3⟩
  · exact absurd ((hat _).mpr hmid) (h2 _)
  · have h4 := (hat i).mp h2
    have hi : i = (TL.tl a).length := by
      have n1 : ¬ (TL.tl a).length < i := fun hk => hlate i hk h4
      have n2 : ¬ i < (TL.tl a).length := fun hk => h3 _ hk ((hat _).mpr hmid)
      omega
    subst hi
    unfold Txt.rpartition
    rw [h1]
    simp only [Prod.mk.injEq, true_and]
    refine ⟨TL.ext_tl ?_, TL.ext_tl ?_⟩
    · rw [TL.tl_strSub, hx]; simp
    · rw [TL.tl_strSub_end, hx, show (" " : Str).length = 1 by decide +kernel]
      rw [List.drop_append, List.drop_of_length_le (by omega), show (TL.tl a).length + 1 - (TL.tl a).length = 1 by omega]; rfl
theorem part_app {a b : Str} (h : ¬ 32 ∈ TL.tl a) : Txt.partition (a ++ (" " : Str) ++ b) " " = (a, (" " : Str), b) := TL.partition_app (s := 32) (S := []) tl_blank h
theorem part_none {a : Str} (h : ¬ 32 ∈ TL.tl a) : Txt.partition a " " = (a, Str.empty, Str.empty) := TL.partition_none (s := 32) (S := []) tl_blank h
theorem lstrip_blanks (k : Nat) {r : Str} {c : Nat} {cs : List Nat} (h : TL.tl r = c :: cs) (hc : c ≠ 32) : Txt.lstripChars (Txt.mul " " (k : Int) ++ r) " " = r := by
  apply TL.ext_tl
  unfold Txt.lstripChars
  rw [PyProof.Rows.stripBy_eq]
  have hx : TL.tl (Txt.mul " " (k : Int) ++ r) = List.replicate k 32 ++ (c :: cs) := by rw [TL.tl_append, tl_blanks, h]
  have g32 : (" " : Str).cps.contains 32 = true := by decide +kernel
  have gc : (" " : Str).cps.contains c = false := by
    rw [show (" " : Str).cps = #[32] by decide +kernel]
    simp; omega
  have lo : PySem.stripLo (" " : Str).cps.contains true (Txt.mul " " (k : Int) ++ r) = k := by
    unfold PySem.stripLo
    rw [if_pos rfl, show (Txt.mul " " (k : Int) ++ r).cps.toList = List.replicate k 32 ++ (c :: cs) from hx]
    have : ∀ n : Nat, ((List.replicate n 32 ++ (c :: cs)).takeWhile (" " : Str).cps.contains).length = n := by
      intro n
      induction n with
      | zero => rw [List.replicate_zero, List.nil_append, List.takeWhile_cons_of_neg (by rw [gc]; exact Bool.false_ne_true)]; rfl
      | succ n ih => rw [List.replicate_succ, List.cons_append, List.takeWhile_cons_of_pos g32, List.length_cons, ih]
    exact this k
  rw [lo]
  unfold PySem.stripHi
  rw [if_neg Bool.false_ne_true, TL.tl_strSub_end, hx, h]
  rw [List.drop_append, List.drop_of_length_le (by simp)]
  simp
theorem len_blanks (k : Nat) (r : Str) : (Txt.mul " " (k : Int) ++ r).length = k + r.length := by
  rw [len_app, TL.len_tl, tl_blanks, List.length_replicate]
end RS
set_option Elab.async false
set_option linter.all false
set_option maxRecDepth 100000
set_option maxHeartbeats 4000000
/-! M2: a written value reads back -/
namespace RS
open PySem L2
theorem cut_first (w : Str) : TL.tl (cutS w none (some 1)) = (TL.tl w).take 1 := tl_cut_to w 1
theorem cut_mid (w : Str) : TL.tl (cutS w (some 1) (some (-1))) = ((TL.tl w).drop 1).take ((TL.tl w).length - 2) := by
  unfold cutS
  have e0 : HT.sIx w.length 0 (some (1 : Int)) = min 1 w.length := HT.sIx_nat w.length 0 1
  have e1 : HT.sIx w.length w.length (some (-1 : Int)) = w.length - 1 := by
    show (if (-1 : Int) < 0 then ((-1 : Int) + (w.length : Int)).toNat else min (-1 : Int).toNat w.length) = _
    rw [if_pos (by decide)]; omega
  rw [e0, e1]
  show ((TL.tl w).drop _).take _ = _
  rw [TL.len_tl]
  by_cases h : 1 ≤ (TL.tl w).length
  · rw [Nat.min_eq_left h, show (TL.tl w).length - 1 - 1 = (TL.tl w).length - 2 by omega]
  · have : TL.tl w = [] := List.eq_nil_of_length_eq_zero (by omega)
    rw [this]; rfl
theorem str_eq_of {a b : Str} (h : TL.tl a = TL.tl b) : a = b := TL.ext_tl h
theorem not_quote {w : Str} {c : Nat} {r : List Nat} (h : TL.tl w = c :: r) (hc : c ≠ 39) : ¬ cutS w none (some 1) = ("'" : Str) := by
  intro e
  have := congrArg TL.tl e
  rw [cut_first, h, tl_quote] at this
  simp at this
  exact hc this
theorem figs_of {f : Str} {n : Int} (hd : NumText.AllDigits (TL.tl f)) (h0 : TL.tl f ≠ []) (hn : ((TL.tl f).length : Int) ≤ n) : figsOk f n = true := by
  have h1 : 1 ≤ (TL.tl f).length := List.length_pos_iff.mpr h0
  unfold figsOk
  rw [TL.len_tl, decide_eq_true (by omega), decide_eq_true hn]
  simp only [Bool.true_and, List.all_eq_true, List.mem_map, forall_exists_index, and_imp, forall_apply_eq_imp_iff₂, id]
  exact fun c hc => mem_figs.mpr (hd c hc)
theorem numL_head : ∀ n : Nat, n ≠ 0 → ∃ c r, TL.numL n = c :: r ∧ c ≠ 48 := by
  intro n
  induction n using Nat.strongRecOn with
  | _ n ih =>
    intro h
    by_cases hn : n < 10
    · exact ⟨48 + n, [], TL.numL_lt hn, by omega⟩
    · obtain ⟨c, r, e, hc⟩ := ih (n / 10) (by omega) (by omega)
      exact ⟨c, r ++ [48 + n % 10], by rw [TL.numL_step (by omega), e]; rfl, hc⟩
theorem numL_first (n : Nat) : ∃ c r, TL.numL n = c :: r ∧ 48 ≤ c ∧ c ≤ 57 := by
  cases h : TL.numL n with
  | nil => exact absurd h (TL.numL_ne n)
  | cons c r =>
    have := TL.numL_digits n c (by rw [h]; exact List.mem_cons_self)
    exact ⟨c, r, rfl, this⟩
theorem lead_num {w : Str} {n : Nat} (h : TL.tl w = TL.numL n) : (lead0 w && !decide (w = ("0" : Str))) = false := by
  by_cases h0 : n = 0
  · subst h0
    have : w = ("0" : Str) := TL.ext_tl (by rw [h]; decide +kernel)
    subst this
    decide +kernel
  · obtain ⟨c, r, e, hc⟩ := numL_head n h0
    unfold lead0
    rw [show w.cps.toList = c :: r by rw [← e]; exact h]
    simp [hc]
theorem number_num {w : Str} {n : Nat} (h : TL.tl w = TL.numL n) (hn : n < 10 ^ 30) : numberIn w = some (n : Int) := by
  obtain ⟨c, r, e, hc⟩ := numL_first n
  have ns : Txt.startswith w "-" = false := by
    rw [Bool.eq_false_iff]
    intro hs
    obtain ⟨r', hr'⟩ := starts_minus.mp hs
    have : TL.tl w = 45 :: r' := hr'
    rw [h, e] at this
    injection this with h1 _
    omega
  have ef : figsOf w = w := by unfold figsOf; rw [if_neg (by rw [ns]; exact Bool.false_ne_true)]
  have len := TL.numL_len (n := n) (k := 30) (by omega) hn
  have ok : figsOk (figsOf w) 30 = true := by rw [ef]; exact figs_of (by rw [h]; exact TL.numL_digits n) (by rw [h]; exact TL.numL_ne n) (by rw [h]; omega)
  unfold numberIn
  rw [ok, ef, lead_num h]
  show some (numVal w) = _
  unfold numVal
  rw [if_neg (by rw [ns]; exact Bool.false_ne_true)]
  rw [show w.cps.toList = TL.numL n from h, TL.numL_val]
theorem number_neg {w : Str} {n : Nat} (h0 : n ≠ 0) (h : TL.tl w = 45 :: TL.numL n) (hn : n < 10 ^ 30) : numberIn w = some (-(n : Int)) := by
  have ns : Txt.startswith w "-" = true := starts_minus.mpr ⟨_, h⟩
  have ef : TL.tl (figsOf w) = TL.numL n := by unfold figsOf; rw [if_pos ns]; exact cut1 h
  have len := TL.numL_len (n := n) (k := 30) (by omega) hn
  have ok : figsOk (figsOf w) 30 = true := figs_of (by rw [ef]; exact TL.numL_digits n) (by rw [ef]; exact TL.numL_ne n) (by rw [ef]; omega)
  have l0 : lead0 (figsOf w) = false := by
    obtain ⟨c, r, e, hc⟩ := numL_head n h0
    unfold lead0
    rw [show (figsOf w).cps.toList = c :: r by rw [← e]; exact ef]
    simp [hc]
  unfold numberIn
  rw [ok, l0]
  show some (numVal w) = _
  unfold numVal
  rw [if_pos ns, show (figsOf w).cps.toList = TL.numL n from ef, TL.numL_val]
theorem bare_esc : ∀ (l : List Nat) (f : Str) (tail : List Nat), bareGo (l.flatMap escL ++ tail) f false = bareGo tail (f ++ ⟨l.toArray⟩) false
  | [], f, tail => by
    have : f ++ (⟨([] : List Nat).toArray⟩ : Str) = f := TL.ext_tl (by rw [TL.tl_append]; simp [TL.tl])
    rw [this]; rfl
  | c :: r, f, tail => by
    have e2 : (f ++ ⟨#[c]⟩) ++ (⟨r.toArray⟩ : Str) = f ++ (⟨(c :: r).toArray⟩ : Str) := TL.ext_tl (by
      rw [TL.tl_append, TL.tl_append, TL.tl_append]; simp [TL.tl])
    rw [List.flatMap_cons, List.append_assoc]
    have ih := bare_esc r (f ++ ⟨#[c]⟩) tail
    rw [e2] at ih
    unfold escL
    by_cases h : c = 39 ∨ c = 92
    · rw [if_pos h]
      show bareGo (92 :: c :: (r.flatMap escL ++ tail)) f false = _
      rw [← ih]
      have s1 : bareGo (92 :: c :: (r.flatMap escL ++ tail)) f false = bareGo (c :: (r.flatMap escL ++ tail)) f true := by
        rw [bareGo]; simp
      rw [s1, bareGo]
      have hb : (decide (c = 39) || decide (c = 92)) = true := by simpa using h
      simp [hb]
    · rw [if_neg h]
      show bareGo (c :: (r.flatMap escL ++ tail)) f false = _
      rw [← ih, bareGo]
      have hb : (decide (c = 39) || decide (c = 92)) = false := by simpa using h
      simp [hb]
theorem isVal_of {s : Str} (h : ∀ c ∈ TL.tl s, 32 ≤ c ∧ c ≤ 126) : isVal s = true := by
  unfold isVal
  simp only [List.all_eq_true, List.mem_map, forall_exists_index, and_imp, forall_apply_eq_imp_iff₂, id]
  intro c hc
  have := h c hc
  have h1 : ¬ [c] < [32] := fun hlt => by
    rcases List.cons_lt_cons_iff.mp hlt with h | ⟨_, h2⟩
    · omega
    · exact absurd h2 (by simp)
  have h2 : ¬ [126] < [c] := fun hlt => by
    rcases List.cons_lt_cons_iff.mp hlt with h | ⟨_, h2⟩
    · omega
    · exact absurd h2 (by simp)
  rw [decide_eq_false h1, decide_eq_false h2]; rfl
theorem value_back {v : PD} (h : wfVal v) : valueIn (writtenOf v) = v := by
  cases v with
  | int i =>
    obtain ⟨h1, h2⟩ := h
    rcases int_forms i with ⟨n, rfl, e⟩ | ⟨n, h0, rfl, e⟩
    · obtain ⟨c, r, ec, hc⟩ := numL_first n
      rw [valueIn_num (not_quote (c := c) (r := r) (by rw [e, ec]) (by omega)), number_num e (by omega)]; rfl
    · rw [valueIn_num (not_quote e (by decide)), number_neg h0 e (by omega)]; rfl
  | str s =>
    have e := tl_writtenS s
    have q1 : cutS (writtenOf (.str s)) none (some 1) = ("'" : Str) := TL.ext_tl (by rw [cut_first, e, tl_quote]; rfl)
    rw [valueIn_text q1]
    have hlen : (writtenOf (.str s)).length = ((TL.tl s).flatMap escL).length + 2 := by rw [TL.len_tl, e]; simp
    have hb : bareIn (cutS (writtenOf (.str s)) (some 1) (some (-1))) = some s := by
      unfold bareIn
      have : (cutS (writtenOf (.str s)) (some 1) (some (-1))).cps.toList = (TL.tl s).flatMap escL := by
        have := cut_mid (writtenOf (.str s))
        rw [e] at this
        rw [show (cutS (writtenOf (.str s)) (some 1) (some (-1))).cps.toList = TL.tl (cutS (writtenOf (.str s)) (some 1) (some (-1))) from rfl, this]
        simp
      rw [this]
      have hb := bare_esc (TL.tl s) "" []
      rw [List.append_nil] at hb
      rw [hb]
      have : ("" : Str) ++ (⟨(TL.tl s).toArray⟩ : Str) = s := TL.ext_tl (by rw [TL.tl_append, tl_empty]; rfl)
      rw [this]; rfl
    have ht : textIn (writtenOf (.str s)) = some s := by
      unfold textIn
      have c1 : (decide (((writtenOf (.str s)).length : Int) < 2) || !decide (first? (writtenOf (.str s)) = some 39) || !decide (last? (writtenOf (.str s)) = some 39)) = false := by
        have f1 : first? (writtenOf (.str s)) = some 39 := by
          unfold first?; rw [show (writtenOf (.str s)).cps.toList = _ from e]; rfl
        have f2 : last? (writtenOf (.str s)) = some 39 := by
          unfold last?; rw [show (writtenOf (.str s)).cps.toList = (39 :: (TL.tl s).flatMap escL) ++ [39] from e]; exact List.getLast?_concat
        rw [f1, f2, decide_eq_false (by omega)]; rfl
      rw [c1, hb]
      have c2 : (decide (40 < (s.length : Int)) || !isVal s) = false := by
        rw [isVal_of h.2, decide_eq_false (by have := h.1; rw [TL.len_tl]; omega)]; rfl
      simp only [c2]
      rfl
    rw [ht]; rfl
  | _ => exact h.elim
theorem pick_back {i : Int} (h : 0 ≤ i ∧ i < 10000) : pickIn (Str.ofString (toString i)) = some i := by
  obtain ⟨n, rfl⟩ := Int.eq_ofNat_of_zero_le h.1
  have e := TL.tl_num n
  have ok : figsOk (Str.ofString (toString ((n : Nat) : Int))) 4 = true := figs_of (by rw [e]; exact TL.numL_digits n) (by rw [e]; exact TL.numL_ne n) (by rw [e]; have := TL.numL_len (n := n) (k := 4) (by omega) (by omega); omega)
  unfold pickIn
  rw [ok, lead_num e]
  show some (((NumText.digitsVal (Str.ofString (toString ((n : Nat) : Int))).cps.toList : Nat) : Int)) = _
  rw [show (Str.ofString (toString ((n : Nat) : Int))).cps.toList = TL.numL n from e, TL.numL_val]
/-! the signs of what is written -/
def Plain (l : List Nat) : Prop := ∀ c ∈ l, 32 ≤ c ∧ c ≤ 126
theorem plain_num (n : Nat) : Plain (TL.numL n) := fun c hc => by have := TL.numL_digits n c hc; omega
theorem plain_written {v : PD} (h : wfVal v) : Plain (TL.tl (writtenOf v)) := by
  cases v with
  | int i =>
    rcases int_forms i with ⟨n, _, e⟩ | ⟨n, _, _, e⟩
    · rw [e]; exact plain_num n
    · rw [e]; intro c hc
      rcases List.mem_cons.mp hc with rfl | hc
      · omega
      · exact plain_num n c hc
  | str s =>
    rw [tl_writtenS]
    intro c hc
    rcases List.mem_cons.mp hc with rfl | hc
    · omega
    rcases List.mem_append.mp hc with hc | hc
    · obtain ⟨a, ha, hc⟩ := List.mem_flatMap.mp hc
      have := h.2 a ha
      unfold escL at hc
      split at hc
      · rcases List.mem_cons.mp hc with rfl | hc
        · omega
        · rcases List.mem_cons.mp hc with rfl | hc
          · exact this
          · exact nomatch hc
      · rcases List.mem_cons.mp hc with rfl | hc
        · exact this
        · exact nomatch hc
    · rcases List.mem_cons.mp hc with rfl | hc
      · omega
      · exact nomatch hc
  | _ => exact h.elim
theorem plain_name {s : Str} (h : isName s = true) : Plain (TL.tl s) := fun c hc => by have := (isName_open h).2.2 c hc; omega
theorem name_free {s : Str} (h : isName s = true) : ¬ 32 ∈ TL.tl s := fun hc => by have := (isName_open h).2.2 32 hc; omega
end RS
set_option Elab.async false
set_option linter.all false
set_option maxRecDepth 100000
set_option maxHeartbeats 4000000
/-! M: a sheet's text reads back -/
namespace RS
open PySem L2
theorem join_one (a : Str) : Txt.join " " [a] = a := TL.ext_tl (by rw [TL.join_eq, TL.tl_join]; rfl)
theorem join_cons (a b : Str) (r : List Str) : Txt.join " " (a :: b :: r) = a ++ (" " : Str) ++ Txt.join " " (b :: r) := TL.ext_tl (by
  rw [TL.tl_append, TL.tl_append, TL.join_eq, TL.join_eq, TL.tl_join, TL.tl_join]
  show TL.tl a ++ (TL.tl (" " : Str) ++ TL.joinL _ _) = _
  rw [List.append_assoc]; rfl)
theorem inV_nm (s : Str) (l : List Str) : inV (.str s) (l.map V.str) = decide (s ∈ l) := by
  induction l with
  | nil => rfl
  | cons a r ih =>
    rw [List.map_cons, inv_cons, ih, eqV_str]
    by_cases h : a = s <;> by_cases h2 : s ∈ r <;> simp [h, h2, eq_comm]
    intro e; exact absurd e.symm h
theorem WfSt.isTup {nm : List Str} {st : PD} (h : WfSt nm st) : ∃ L, st = .tup L := by cases h <;> exact ⟨_, rfl⟩
theorem step_word {w x : Str} (hw : ¬ 32 ∈ TL.tl w) (hs : w ≠ ("set" : Str)) (hi : inV (.str w) withName = true) (hx : isName x = true) : stepIn (Txt.join " " [w, x]) = .tup [.str w, .str x] := by
  rw [join_cons, join_one]
  unfold stepIn
  simp only [part_app hw]
  rw [if_neg hs, hi, hx]
  rfl
theorem step_alone {w : Str} (hw : ¬ 32 ∈ TL.tl w) (hs : w ≠ ("set" : Str)) (hi : inV (.str w) withName = false) (ha : inV (.str w) alone = true) : stepIn (Txt.join " " [w]) = .tup [.str w] := by
  rw [join_one]
  unfold stepIn
  simp only [part_none hw]
  rw [if_neg hs, hi, ha]
  rfl
theorem step_back {nm : List Str} {st : PD} (h : WfSt nm st) (hn : ∀ n ∈ nm, isName n = true) : stepIn (Txt.join " " (wordsOf st)) = st := by
  cases h with
  | @set n s v h1 h2 h3 =>
    have e : wordsOf (.tup [.str "set", .str n, v, .str s]) = [("set" : Str), n, writtenOf v, s] := rfl
    rw [e, join_cons, join_cons, join_cons, join_one]
    unfold stepIn
    simp only [part_app (a := "set") (b := n ++ (" " : Str) ++ (writtenOf v ++ (" " : Str) ++ s)) (by decide +kernel)]
    rw [if_pos trivial]
    unfold setIn
    simp only [part_app (a := n) (b := writtenOf v ++ (" " : Str) ++ s) (name_free (hn n h1)), rpart_app (a := writtenOf v) (b := s) (name_free h2), value_back h3, hn n h1, h2]
    cases v with
    | int i => rfl
    | str i => rfl
    | _ => exact h3.elim
  | look h1 => exact step_word (by decide +kernel) (by decide +kernel) (by decide +kernel) (hn _ h1)
  | back h1 => exact step_word (by decide +kernel) (by decide +kernel) (by decide +kernel) h1
  | copy h1 => exact step_word (by decide +kernel) (by decide +kernel) (by decide +kernel) h1
  | inn h1 => exact step_word (by decide +kernel) (by decide +kernel) (by decide +kernel) h1
  | pass_ => exact step_alone (by decide +kernel) (by decide +kernel) (by decide +kernel) (by decide +kernel)
  | begin_ => exact step_alone (by decide +kernel) (by decide +kernel) (by decide +kernel) (by decide +kernel)
  | late => exact step_alone (by decide +kernel) (by decide +kernel) (by decide +kernel) (by decide +kernel)
theorem join_head {w : Str} {r : List Str} {c : Nat} {cs : List Nat} (h : TL.tl w = c :: cs) : ∃ ds, TL.tl (Txt.join " " (w :: r)) = c :: ds := by
  cases r with
  | nil => exact ⟨cs, by rw [join_one, h]⟩
  | cons b r => rw [join_cons, TL.tl_append, TL.tl_append, h]; exact ⟨_, rfl⟩
theorem words_head {nm : List Str} {st : PD} (h : WfSt nm st) : ∃ c ds, c ≠ 32 ∧ TL.tl (Txt.join " " (wordsOf st)) = c :: ds := by
  have hh : ∀ (w : Str) (r : List Str) (c : Nat) (cs : List Nat), TL.tl w = c :: cs → c ≠ 32 → ∃ c ds, c ≠ 32 ∧ TL.tl (Txt.join " " (w :: r)) = c :: ds := by
    intro w r c cs h hc
    obtain ⟨ds, e⟩ := join_head (r := r) h
    exact ⟨c, ds, hc, e⟩
  cases h with
  | set => exact hh "set" _ 115 [101, 116] (by decide +kernel) (by decide)
  | look => exact hh "look" _ 108 [111, 111, 107] (by decide +kernel) (by decide)
  | back => exact hh "back" _ 98 [97, 99, 107] (by decide +kernel) (by decide)
  | copy => exact hh "copy" _ 99 [111, 112, 121] (by decide +kernel) (by decide)
  | inn => exact hh "in" _ 105 [110] (by decide +kernel) (by decide)
  | pass_ => exact hh "pass" _ 112 [97, 115, 115] (by decide +kernel) (by decide)
  | begin_ => exact hh "begin" _ 98 [101, 103, 105, 110] (by decide +kernel) (by decide)
  | late => exact hh "late" _ 108 [97, 116, 101] (by decide +kernel) (by decide)
theorem row_back {nm : List Str} {st : PD} {k : Nat} {most : Int} (w : WfSt nm st) (hn : ∀ n ∈ nm, isName n = true) (hm : (k : Int) ≤ most) : rowOne (rowText ((k : Int), st)) most = some ((k : Int), st) := by
  obtain ⟨c, ds, hc, e⟩ := words_head w
  have rt : rowText ((k : Int), st) = Txt.mul " " ((2 * k : Nat) : Int) ++ Txt.join " " (wordsOf st) := by
    unfold rowText; rw [show 2 * (k : Int) = ((2 * k : Nat) : Int) by omega]
  have ls : Txt.lstripChars (rowText ((k : Int), st)) " " = Txt.join " " (wordsOf st) := by rw [rt]; exact lstrip_blanks (2 * k) e hc
  have bl : blanksOf (rowText ((k : Int), st)) = 2 * (k : Int) := by
    unfold blanksOf; rw [ls, rt, len_blanks]; omega
  obtain ⟨L, rfl⟩ := w.isTup
  unfold rowOne
  rw [ls, step_back w hn, bl]
  have d1 : decide (0 < 2 * (k : Int) % 2) = false := decide_eq_false (by omega)
  have d2 : decide (most < 2 * (k : Int) / 2) = false := decide_eq_false (by omega)
  simp only [d1, d2]
  rw [show 2 * (k : Int) / 2 = (k : Int) by omega]
  rfl
theorem rowsGo_cons {r : Str} {rs : List Str} {most d : Int} {st : PD} {l : List (Int × PD)} (h1 : rowOne r most = some (d, st)) (h2 : rowsGo rs (d + (if inBlocks st then 1 else 0)) = some l) : rowsGo (r :: rs) most = some ((d, st) :: l) := by
  rw [rowsGo, h1]
  simp only [h2]
theorem rows_flat {nm : List Str} (hn : ∀ n ∈ nm, isName n = true) {d : Int} {p : List PD} {l : List (Int × PD)} (fl : Flat nm d p l) : 0 ≤ d → ∀ (rest : List Str) (lr : List (Int × PD)), (∀ m, d ≤ m → rowsGo rest m = some lr) → ∀ most, d ≤ most → rowsGo (l.map rowText ++ rest) most = some (l ++ lr) := by
  induction fl with
  | nil => exact fun _ rest lr h most hm => h most hm
  | @plain d st pr l w b _ ih =>
    intro h0 rest lr h most hm
    obtain ⟨k, rfl⟩ := Int.eq_ofNat_of_zero_le h0
    refine rowsGo_cons (row_back w hn hm) ?_
    rw [b]
    exact ih h0 rest lr h _ (by simp)
  | @block d st body pr lb l w b hb _ ihb ih =>
    intro h0 rest lr h most hm
    obtain ⟨k, rfl⟩ := Int.eq_ofNat_of_zero_le h0
    refine rowsGo_cons (row_back w hn hm) ?_
    rw [b, if_pos rfl]
    show rowsGo ((lb ++ l).map rowText ++ rest) _ = some ((lb ++ l) ++ lr)
    rw [List.map_append, List.append_assoc, List.append_assoc]
    exact ihb (by omega) (l.map rowText ++ rest) (l ++ lr) (fun m hm' => ih h0 rest lr h m (by omega)) _ (Int.le_refl _)
theorem prog_flat {nm : List Str} {d : Int} {p : List PD} {l : List (Int × PD)} (fl : Flat nm d p l) : ∀ rest : List (Int × PD), (∀ e st r, rest = (e, st) :: r → e < d) → progC (l ++ rest) d = (p, rest) := by
  induction fl with
  | nil =>
    intro rest h
    cases rest with
    | nil => exact progC_nil _
    | cons q r =>
      obtain ⟨e, st⟩ := q
      exact progC_other (by have := h e st r rfl; omega)
  | @plain d st pr l w b _ ih =>
    intro rest h
    rw [List.cons_append, progC_plain b, ih rest h]
  | @block d st body pr lb l w b hb fl' ihb ih =>
    intro rest h
    rw [List.cons_append, List.append_assoc]
    have hin : progC (lb ++ (l ++ rest)) (d + 1) = (body, l ++ rest) := ihb (l ++ rest) (by
      intro e st' r he
      cases l with
      | nil => have := h e st' r he; omega
      | cons q l' =>
        rw [List.cons_append] at he
        injection he with he _
        cases fl' with
        | plain => injection he with he _; omega
        | block => injection he with he _; omega)
    rw [progC_block b, hin, ih rest h]
theorem named_back {nm : List Str} {st : PD} (h : WfSt nm st) : stepNamed nm st = true := by
  have k1 : inV (V.str "set") [V.str "set", V.str "look"] = true := by decide +kernel
  have k2 : inV (V.str "look") [V.str "set", V.str "look"] = true := by decide +kernel
  have k3 : inV (V.str "back") [V.str "set", V.str "look"] = false := by decide +kernel
  have k4 : inV (V.str "copy") [V.str "set", V.str "look"] = false := by decide +kernel
  have k5 : inV (V.str "pass") [V.str "set", V.str "look"] = false := by decide +kernel
  have k6 : inV (V.str "begin") [V.str "set", V.str "look"] = false := by decide +kernel
  have k7 : inV (V.str "late") [V.str "set", V.str "look"] = false := by decide +kernel
  have k8 : inV (V.str "in") [V.str "set", V.str "look"] = false := by decide +kernel
  cases h with
  | set h1 => unfold stepNamed; simp only [k1, if_true, inV_nm]; exact decide_eq_true h1
  | look h1 => unfold stepNamed; simp only [k2, if_true, inV_nm]; exact decide_eq_true h1
  | back => unfold stepNamed; simp [k3]
  | copy => unfold stepNamed; simp [k4]
  | pass_ => unfold stepNamed; simp [k5]
  | begin_ => unfold stepNamed; simp [k6]
  | late => unfold stepNamed; simp [k7]
  | inn => unfold stepNamed; simp [k8]
/-! settings and picks -/
theorem setting_back {d : PD} (h : WfSet d) : settingIn (setRow d) = d := by
  obtain ⟨n, v, rfl, hn, hv⟩ := h
  have sb : TL.tl ("setting " : Str) = TL.tl ("setting" : Str) ++ TL.tl (" " : Str) := by decide +kernel
  rcases hv with rfl | hv
  · have e : setRow (.tup [.str n, .non]) = ("setting" : Str) ++ (" " : Str) ++ n := TL.ext_tl (by
      show TL.tl (("setting " : Str) ++ n ++ ("" : Str)) = _
      rw [TL.tl_append, TL.tl_append, TL.tl_append, TL.tl_append, sb, tl_empty]; simp)
    rw [e]
    unfold settingIn
    simp only [part_app (a := "setting") (b := n) (by decide +kernel), part_none (name_free hn), hn]
    rw [if_neg (by decide +kernel), if_neg (by decide +kernel)]
  · have e : setRow (.tup [.str n, v]) = ("setting" : Str) ++ (" " : Str) ++ (n ++ (" " : Str) ++ writtenOf v) := TL.ext_tl (by
      rw [setRow_val hv]
      simp only [TL.tl_append, sb, List.append_assoc])
    rw [e]
    unfold settingIn
    simp only [part_app (a := "setting") (b := n ++ (" " : Str) ++ writtenOf v) (by decide +kernel), part_app (a := n) (b := writtenOf v) (name_free hn), hn, value_back hv]
    rw [if_neg (by decide +kernel), if_pos trivial]
    cases v with
    | int i => rfl
    | str i => rfl
    | _ => exact hv.elim
theorem weave_not (ps : List Int) : settingIn (weaveRow ps) = .non := by
  have hw : (Txt.partition (weaveRow ps) " ").1 = ("weave" : Str) := by
    unfold weaveRow
    cases ps with
    | nil => rw [List.map_nil, join_one, part_none (by decide +kernel)]
    | cons p r => rw [List.map_cons, join_cons, part_app (by decide +kernel)]
  unfold settingIn
  simp only [hw]
  rw [if_pos]
  rw [show decide (("weave" : Str) = ("setting" : Str)) = false by decide +kernel]; rfl
theorem settings_non {r : Str} {rs : List Str} (h : settingIn r = .non) : settingsIn (r :: rs) = [] := by
  show (match settingIn r with | .non => [] | d => d :: settingsIn rs) = _
  rw [h]
theorem settings_tup {r : Str} {rs : List Str} {l : List PD} (h : settingIn r = .tup l) : settingsIn (r :: rs) = .tup l :: settingsIn rs := by
  show (match settingIn r with | .non => [] | d => d :: settingsIn rs) = _
  rw [h]
theorem settings_back : ∀ (sets : List PD), (∀ d ∈ sets, WfSet d) → ∀ (ps : List Int) (rest : List Str), settingsIn (sets.map setRow ++ ([weaveRow ps] ++ rest)) = sets
  | [], _, ps, rest => settings_non (weave_not ps)
  | d :: r, h, ps, rest => by
    have hd := h d List.mem_cons_self
    have e := setting_back hd
    obtain ⟨n, v, rfl, _, _⟩ := hd
    rw [List.map_cons, List.cons_append, settings_tup e, settings_back r (fun d hd => h d (List.mem_cons_of_mem _ hd)) ps rest]
theorem all_some : ∀ (ps : List Int), (∀ p ∈ ps, 0 ≤ p ∧ p < 10000) → allSome ((ps.map fun i => Str.ofString (toString i)).map pickIn) = some ps
  | [], _ => rfl
  | p :: r, h => by
    rw [List.map_cons, List.map_cons, pick_back (h p List.mem_cons_self)]
    show (allSome _).map (p :: ·) = _
    rw [all_some r fun q hq => h q (List.mem_cons_of_mem _ hq)]; rfl
theorem num_free {i : Int} (h : 0 ≤ i ∧ i < 10000) : ¬ 32 ∈ TL.tl (Str.ofString (toString i)) := by
  obtain ⟨n, rfl⟩ := Int.eq_ofNat_of_zero_le h.1
  rw [TL.tl_num]
  exact TL.numL_free (by omega)
theorem picks_back {ps : List Int} (h : ∀ p ∈ ps, 0 ≤ p ∧ p < 10000) : picksIn (weaveRow ps) = some ps := by
  have e : Txt.split (weaveRow ps) " " = ("weave" : Str) :: ps.map fun i => Str.ofString (toString i) := by
    unfold weaveRow
    refine TL.split_join (s := 32) (S := []) tl_blank (by decide +kernel) (by simp) fun p hp => ?_
    rcases List.mem_cons.mp hp with rfl | hp
    · decide +kernel
    · obtain ⟨i, hi, rfl⟩ := List.mem_map.mp hp
      exact num_free (h i hi)
  unfold picksIn
  rw [e]
  simp only []
  rw [if_pos trivial]
  exact all_some ps h
/-! no row breaks -/
theorem plain_app {a b : Str} (h1 : Plain (TL.tl a)) (h2 : Plain (TL.tl b)) : Plain (TL.tl (a ++ b)) := by
  rw [TL.tl_append]; intro c hc
  rcases List.mem_append.mp hc with hc | hc
  · exact h1 c hc
  · exact h2 c hc
theorem plain_chk {a : Str} (h : (TL.tl a).all (fun c => decide (32 ≤ c) && decide (c ≤ 126)) = true) : Plain (TL.tl a) := fun c hc => by
  have := List.all_eq_true.mp h c hc
  simpa using this
theorem plain_join : ∀ (ws : List Str), (∀ w ∈ ws, Plain (TL.tl w)) → Plain (TL.tl (Txt.join " " ws))
  | [], _ => fun c hc => by rw [TL.join_eq, TL.tl_join] at hc; exact nomatch hc
  | [a], h => by rw [join_one]; exact h a List.mem_cons_self
  | a :: b :: r, h => by
    rw [join_cons]
    exact plain_app (plain_app (h a List.mem_cons_self) (plain_chk (by decide +kernel))) (plain_join (b :: r) fun w hw => h w (List.mem_cons_of_mem _ hw))
theorem plain_words {nm : List Str} {st : PD} (h : WfSt nm st) (hn : ∀ n ∈ nm, isName n = true) : ∀ w ∈ wordsOf st, Plain (TL.tl w) := by
  have two : ∀ (a b : Str), Plain (TL.tl a) → Plain (TL.tl b) → ∀ w ∈ [a, b], Plain (TL.tl w) := fun a b h1 h2 w hw => by
    rcases List.mem_cons.mp hw with rfl | hw
    · exact h1
    rcases List.mem_cons.mp hw with rfl | hw
    · exact h2
    exact nomatch hw
  have one : ∀ (a : Str), Plain (TL.tl a) → ∀ w ∈ [a], Plain (TL.tl w) := fun a h1 w hw => by
    rcases List.mem_cons.mp hw with rfl | hw
    · exact h1
    exact nomatch hw
  cases h with
  | @set n s v h1 h2 h3 =>
    intro w hw
    rcases List.mem_cons.mp hw with rfl | hw
    · exact plain_chk (by decide +kernel)
    rcases List.mem_cons.mp hw with rfl | hw
    · exact plain_name (hn _ h1)
    exact two _ _ (plain_written h3) (plain_name h2) w hw
  | look h1 => exact two _ _ (plain_chk (by decide +kernel)) (plain_name (hn _ h1))
  | back h1 => exact two _ _ (plain_chk (by decide +kernel)) (plain_name h1)
  | copy h1 => exact two _ _ (plain_chk (by decide +kernel)) (plain_name h1)
  | inn h1 => exact two _ _ (plain_chk (by decide +kernel)) (plain_name h1)
  | _ => exact one _ (plain_chk (by decide +kernel))
theorem plain_row {nm : List Str} {st : PD} {d : Int} (h : WfSt nm st) (hn : ∀ n ∈ nm, isName n = true) : Plain (TL.tl (rowText (d, st))) := by
  unfold rowText
  refine plain_app ?_ (plain_join _ (plain_words h hn))
  intro c hc
  rw [tl_mul, tl_blank] at hc
  obtain ⟨l, hl, hc⟩ := List.mem_flatten.mp hc
  rw [(List.mem_replicate.mp hl).2] at hc
  rcases List.mem_cons.mp hc with rfl | hc
  · omega
  · exact nomatch hc
theorem plain_set {d : PD} (h : WfSet d) : Plain (TL.tl (setRow d)) := by
  obtain ⟨n, v, rfl, hn, hv⟩ := h
  rcases hv with rfl | hv
  · exact plain_app (plain_app (plain_chk (by decide +kernel)) (plain_name hn)) (plain_chk (by decide +kernel))
  · rw [setRow_val hv]
    exact plain_app (plain_app (plain_chk (by decide +kernel)) (plain_name hn)) (plain_app (plain_chk (by decide +kernel)) (plain_written hv))
theorem plain_weave {ps : List Int} (h : ∀ p ∈ ps, 0 ≤ p ∧ p < 10000) : Plain (TL.tl (weaveRow ps)) := by
  refine plain_join _ fun w hw => ?_
  rcases List.mem_cons.mp hw with rfl | hw
  · exact plain_chk (by decide +kernel)
  · obtain ⟨i, hi, rfl⟩ := List.mem_map.mp hw
    obtain ⟨n, rfl⟩ := Int.eq_ofNat_of_zero_le (h i hi).1
    rw [TL.tl_num]
    exact plain_num n
section
variable {sets : List PD} {ps : List Int} {prog : List PD} {l : List (Int × PD)}
theorem rows_read (hn : ∀ n ∈ sets.map nameOf, isName n = true) (fl : Flat (sets.map nameOf) 0 prog l) (h6 : ∀ q ∈ l, q.1 ≤ 6) : rowsGo (l.map rowText) 0 = some l := by
  have := rows_flat hn fl (Int.le_refl _) [] [] (fun m _ => rfl) 0 (Int.le_refl _)
  rw [List.append_nil, List.append_nil] at this
  exact this
theorem nm_names (wf : WfSh sets ps prog) : ∀ n ∈ sets.map nameOf, isName n = true := by
  intro n hn
  obtain ⟨d, hd, rfl⟩ := List.mem_map.mp hn
  obtain ⟨n, v, rfl, h1, _⟩ := wf.wset d hd
  exact h1
theorem sheet_split (wf : WfSh sets ps prog) (fl : Flat (sets.map nameOf) 0 prog l) (h6 : ∀ q ∈ l, q.1 ≤ 6) : Txt.split (sheetText sets ps l) "\n" = textRows sets ps l := by
  refine TL.split_join (s := 10) (S := []) (by decide +kernel) (by decide +kernel) (by unfold textRows; simp) fun p hp => ?_
  have pl : Plain (TL.tl p) := by
    unfold textRows at hp
    rcases List.mem_append.mp hp with hp | hp
    · rcases List.mem_append.mp hp with hp | hp
      · obtain ⟨d, hd, rfl⟩ := List.mem_map.mp hp
        exact plain_set (wf.wset d hd)
      · rcases List.mem_cons.mp hp with rfl | hp
        · exact plain_weave wf.wpick
        · exact nomatch hp
    · obtain ⟨q, hq, rfl⟩ := List.mem_map.mp hp
      exact plain_row (st := q.2) (d := q.1) (fl.steps q hq).1 (nm_names wf)
  intro h
  have := pl 10 h
  omega
theorem sheet_reads (wf : WfSh sets ps prog) (fl : Flat (sets.map nameOf) 0 prog l) (h6 : ∀ q ∈ l, q.1 ≤ 6) : sheetFrom (sheetText sets ps l) = some (sets, ps, prog) := by
  have e1 : settingsIn (textRows sets ps l) = sets := by
    unfold textRows; rw [List.append_assoc]; exact settings_back sets wf.wset ps _
  have hd : (textRows sets ps l).drop sets.length = weaveRow ps :: l.map rowText := by
    unfold textRows
    rw [List.append_assoc, List.drop_left' (by rw [List.length_map])]; rfl
  have hp := prog_flat fl [] (fun e st r h => nomatch h)
  rw [List.append_nil] at hp
  have hnm : (l.all fun p => stepNamed (sets.map nameOf) p.2) = true := List.all_eq_true.mpr fun q hq => named_back (fl.steps q hq).1
  unfold sheetFrom
  simp only [sheet_split wf fl h6, e1, hd, picks_back wf.wpick, rows_read (nm_names wf) fl h6, hnm, hp, decide_eq_true wf.nd]
  rfl
end
end RS
set_option Elab.async false
set_option linter.all false
set_option maxRecDepth 100000
set_option maxHeartbeats 4000000
/-! Rd: a base class's own name said in an error's __init__: Base.__init__(self, ..), Base over ValueError without an __init__. -/
namespace RS
open PySem PySem.Spec PyProof.Rows L2
theorem pe_cinit {X : Cx} {ta : TA} {e : Expr} {es : List Expr} {p1 p2 pos : Pos} {x0 : Str} {C0 : Addr} {mc : Value} {pl : Sem Bool} (hg : Gl X x0) (hm : X.mg x0 = some (.ref C0))
    (hga : PySem.W.specialIn X.K (.ref C0) "__getattribute__" = some (some (.builtin "type.__getattribute__"))) (hmc : PySem.W.typeIn X.K (.ref C0) = some mc) (hr : PySem.W.readsIn X.K C0 mc = true)
    (vV : PySem.W.findCls X.K (.ref C0) mc "__init__" = some (.val (.builtin "ValueError.__init__"))) (ha : PA X (e :: es) ta) (hdb : (x0 == ("__debug__" : Str)) = false := by decide +kernel)
    (hc : eval (.Call (.Attribute (.Name x0 p1) "__init__" p2) (e :: es) [] pos) X.env = (do
      let ov ← eval (.Name x0 p1) X.env
      standAt p2.atName
      let (f, first) ← holding [ov] (getMethod ov "__init__" pl)
      callWith pos f first (backTo pos (starEach (e :: es) X.env)) (backToKw pos (keywordEach [] X.env))) := by rfl)
    (he : starEach (e :: es) X.env = (false, eval e X.env) :: starEach es X.env := by rfl) (hpl : (backTo pos (starEach es X.env)).any (·.1) = false := by rfl) :
    PE X (.Call (.Attribute (.Name x0 p1) "__init__" p2) (e :: es) [] pos) (tVeI X.K ta) := by
  refine ⟨fun pins s σ H Q I h => ?_⟩
  refine PySem.W.methodCall_KW (ld_glob I hg hm ?_ hdb) hc
  obtain ⟨m, fr⟩ := I.fr
  refine PySem.W.method_of_cls fr I.ok.mod.kin hga (PySem.W.cls_val fr I.ok.mod.kin hmc hr vV (by decide +kernel) ?_)
  show wpAny _ _ (callWith pos (Value.builtin "ValueError.__init__") [] (backTo pos (starEach (e :: es) X.env)) []) _ _ _
  refine PyProof.Rows.callWith_method1 (thn (ha.run pos pins _ σ H _ (I.tok _) h) fun us s1 ⟨vs, H1, I1, r1, a, C, ws, ev, hl, T, ea, q⟩ => ?_) he hpl
  subst ev
  cases r1 with
  | @cons _ u0 _ ur ra rw' =>
    obtain rfl : u0 = Value.ref a := ra
    have hlen : ur.length ≤ sizeLine := by
      rw [← Paired.length rw', sizeLine_eq]
      omega
    exact oinit_ok T I1 ea hlen fun s' J => ⟨.non, H1, J, rfl, q⟩
theorem ps_nox {X : Cx} {st : Stmt} {t : TS} (h : PS X.nox st t) : PS X st t := ⟨fun pins s σ H D I hw =>
  wpAny_mono (h.run pins s σ H D (I.wish _) hw) (fun _ _ q => q.unwish) fun _ _ z => False.elim z⟩
/-- what the text says of an own error over Base, Base over ValueError, whose __init__ says Base.__init__(self, ..) and keeps one field -/
structure ErT (K : PySem.W.Frag) (mg : Str → Option Value) (x x0 fld qual : Str) (st : Stmt) where
  C : Addr
  C0 : Addr
  mc : Value
  a : Addr
  d : FuncData
  gC : mg x = some (.ref C)
  g0 : mg x0 = some (.ref C0)
  oex : OexC K C
  iC : PySem.W.findIn K (.ref C) "__init__" = some (some (.ref a))
  tI : PySem.W.typeIn K (.ref a) = some (.type "function")
  F : Fun K "__init__" qual st a d
  b : Binds K d ["self", fld] []
  noF : PySem.W.findIn K (.ref C) fld = some none
  hga : PySem.W.specialIn K (.ref C0) "__getattribute__" = some (some (.builtin "type.__getattribute__"))
  hmc : PySem.W.typeIn K (.ref C0) = some mc
  hr : PySem.W.readsIn K C0 mc = true
  vV : PySem.W.findCls K (.ref C0) mc "__init__" = some (.val (.builtin "ValueError.__init__"))
/-- __init__ of such an error: its dict, new, holds the field -/
def spEr (C : Addr) (fld : Str) : Sp := fun vs H Q _ => ∃ (a : Addr) (v : V), vs = [.ref a, v] ∧ H a = some (exo a C none) ∧ ∀ d, H d = none → d ≠ a → Q .non (upd (upd H d (exd d [(fld, v)])) a (exo a C (some d)))
def kVe (K : PySem.W.Frag) (Q : VK) : List V → Hp → Prop := fun vs H1 => ∃ (a C : Addr) (ws : List V), vs = .ref a :: ws ∧ ws.length ≤ 1000 ∧ OexC K C ∧ H1 a = some (exo a C none) ∧ Q .non H1
instance {K : PySem.W.Frag} {ta : TA} {σ : L2.St} {H : Hp} {Q : VK} : Stp (tVeI K ta σ H Q) (ta σ H (kVe K Q)) := ⟨id⟩
theorem w_kVe {K : PySem.W.Frag} {Q : VK} {H : Hp} {a C : Addr} {ws : List V} (oex : OexC K C) (ha : H a = some (exo a C none)) (hw : ws.length ≤ 1000) (q : Q .non H) : kVe K Q (.ref a :: ws) H := ⟨a, C, ws, rfl, hw, oex, ha, q⟩
def kOst (K : PySem.W.Frag) (f : Str) (D : Ends) (σ : L2.St) (y : V) : VK := fun x H2 => ∃ a C : Addr, x = .ref a ∧ OexC K C ∧ PySem.W.findIn K (.ref C) f = some none ∧
  ((H2 a = some (exo a C none) ∧ ∀ dx, H2 dx = none → dx ≠ a → D.nx σ (upd (upd H2 dx (exd dx [(f, y)])) a (exo a C (some dx)))) ∨
    ∃ (dx : Addr) (fs : List (Str × V)), H2 a = some (exo a C (some dx)) ∧ H2 dx = some (exd dx fs) ∧ fs.length ≤ 900 ∧ D.nx σ (upd H2 dx (exd dx ((f, y) :: fs))))
instance {K : PySem.W.Frag} {f : Str} {to te : TE} {D : Ends} {σ : L2.St} {H : Hp} : Stp (tOst K f to te D σ H) (te σ H fun y H1 => to σ H1 (kOst K f D σ y)) := ⟨id⟩
theorem w_kOst {K : PySem.W.Frag} {f : Str} {D : Ends} {σ : L2.St} {y : V} {a C : Addr} {H : Hp} (oex : OexC K C) (nf : PySem.W.findIn K (.ref C) f = some none) (ha : H a = some (exo a C none))
    (q : ∀ dx, H dx = none → dx ≠ a → D.nx σ (upd (upd H dx (exd dx [(f, y)])) a (exo a C (some dx)))) : kOst K f D σ y (.ref a) H := ⟨a, C, rfl, oex, nf, .inl ⟨ha, q⟩⟩
end RS
set_option Elab.async false
set_option linter.all false
set_option maxRecDepth 100000
set_option maxHeartbeats 4000000
/-! Rd2: an exception that is kept behind its except clause (caught = error): tracked from then on. -/
namespace RS
open PySem PySem.Spec PyProof.Rows L2
/-- at a: a caught exception of the class cls, its dict d -/
def cgt (cls : Value) (d : Option Addr) (a : Addr) : HO := .ext fun h => ∃ (oe : Obj) (vs : Array Value), h.get? a = some oe ∧ Zc cls d oe ∧ oe.data = .fields vs
theorem cgt_ok {P : Program} {w : World} {H : Hp} {h : Heap} {a : Addr} {cls : Value} {d : Option Addr} {oe : Obj} {vs : Array Value} (e : h.get? a = some oe) (z : Zc cls d oe) (dd : oe.data = .fields vs) : ObjOk P w H h a (cgt cls d a) :=
  ⟨⟨oe, vs, e, z, dd⟩, ⟨_, e⟩, fun h1 h2 z k => by
    obtain ⟨o, v, q1, q2, q3⟩ := z
    exact ⟨o, v, k _ q1, q2, q3⟩⟩
section
variable {X : Cx} {pins : List (Addr × Obj)} {σ : L2.St} {H : Hp} {s : Shared} {a : Addr} {o : HO}
/-- an object that stands there, new since the def's entry, is tracked from now on -/
theorem adopt (I : Inv X pins σ H s) (n0 : X.s_0.heap.get? a = none) (hn : H a = none) (nL : a ≠ X.env.locals) (nc : ∀ x c, X.env.cells.lookup x = some c → c ≠ a) (np : ∀ p ∈ X.pn ++ pins, p.1 ≠ a)
    (new : ObjOk X.prog X.w (upd H a o) s.heap a o) : Inv X pins σ (upd H a o) s := by
  have n1 : ∀ b u, X.s_0.heap.get? b = some u → b ≠ a := fun b u e z => by rw [z, n0] at e; cases e
  exact {
    ok := I.ok, os := I.os, bare := I.bare, loc := I.loc, cell := I.cell, len := I.len
    base := {
      keep := I.base.keep
      slot := I.base.slot
      free := fun b u e n x => by rw [upd_ne (n1 b u e)]; exact I.base.free b u e n x
      there := I.base.there
      tups := fun b xs e => by have q := I.base.tups b xs e; rw [upd_ne (ne_of_none q hn)]; exact q
      frzs := fun b u v e => by have q := I.base.frzs b u v e; rw [upd_ne (ne_of_none q hn)]; exact q
      tbls := fun b ps e => by obtain ⟨m, q⟩ := I.base.tbls b ps e; exact ⟨m, by rw [upd_ne (ne_of_none q hn)]; exact q⟩ }
    free := by rw [upd_ne (Ne.symm nL)]; exact I.free
    freeC := fun x c e => by rw [upd_ne (nc x c e)]; exact I.freeC x c e
    pin := fun p hp => by
      obtain ⟨q1, q2, q3⟩ := I.pin p hp
      exact ⟨q1, by rw [upd_ne (np p hp)]; exact q2, q3⟩
    hok := I.hok.laidN (fun _ _ q => q) hn new }
end
/-- what the clause wishes where the exception is kept: behind it the exception is tracked -/
def wKeep (K : PySem.W.Frag) (c : Value) (i : Nat) (ts : Addr → Value → Option Addr → TS) (Wout : WX) (D : Ends) : WX := fun cls d σ H =>
  ∃ b, PySem.W.exmOne K cls c = some b ∧ (b = true → ∀ a, H a = none → ts a cls d { nx := fun σ' H' => H' a = none ∧ D.nx (σ'.set i none) (upd H' a (cgt cls d a)), rt := fun _ _ => False, bk := fun _ _ => False, ct := fun _ _ => False } (σ.set i (some (.ref a))) H) ∧
    (b = false → Wout cls d σ H)
section
variable {X : Cx} {x n : Str} {c : Value} {i : Nat} {body suite : List Stmt} {b₀ : Stmt} {np pos pos' : Pos} {tb : WX → TS} {ts : Addr → Value → Option Addr → TS} {Wout : WX}
theorem ps_try_keep (hs : X.stack = X.env :: X.outer) (hf : X.env.frame = some X.env.locals) (hex : X.ex = []) (hN : X.N.Nodup) (hi : X.N[i]? = some n) (hln : X.env.kindOf n = some .local) (hc : Names X x c) (tk : Takes X Wout)
    (hb : ∀ (W : WX) (pn : List (Addr × Obj)) (xe : Value → Shared → Prop), Takes (X.tr pn xe) W → PassesOwn (model X.prog X.w) X.A X.env xe → PSs (X.tr pn xe) body (tb W))
    (hsu : ∀ (a : Addr) (oe : Obj) (cls : Value) (d : Option Addr) (pn : List (Addr × Obj)), Zc cls d oe → (∃ vs, oe.data = .fields vs) → PSs (X.suite a ((a, oe) :: pn)) (b₀ :: suite) (ts a cls d)) :
    PS X (.Try body [.ExceptHandler (some (.Name x np)) (some n) (b₀ :: suite) pos'] [] [] pos) (fun D σ H => tb (wKeep X.K c i ts Wout D) D σ H) := by
  refine ⟨fun pins s σ H D I h => ?_⟩
  have ok := I.ok
  have hfr : X.A.frames = some (X.env :: X.outer) := by rw [ok.frames, hs]
  have go : ∀ (u : Value) (s' : Shared), XE (X.tr (X.pn ++ pins) (fun e s₁ => wpAny (model X.prog X.w) X.A (noteFrame e X.env) (fun _ s₂ => wpAny (model X.prog X.w) X.A (setFlight e none) (fun _ s₃ =>
      wpAny (model X.prog X.w) X.A (handleBy e X.env [.ExceptHandler (some (.Name x np)) (some n) (b₀ :: suite) pos']) (SP X pins D) X.xe s₃) X.xe s₂) X.xe s₁)) (wKeep X.K c i ts Wout D) u s' →
      wpAny (model X.prog X.w) X.A (noteFrame u X.env) (fun _ s₂ => wpAny (model X.prog X.w) X.A (setFlight u none) (fun _ s₃ =>
        wpAny (model X.prog X.w) X.A (handleBy u X.env [.ExceptHandler (some (.Name x np)) (some n) (b₀ :: suite) pos']) (SP X pins D) X.xe s₃) X.xe s₂) X.xe s' := by
    rintro u s' ⟨a, B, sI, pins', σ', H', cls, d, rfl, J', nb, up, sky, na, os, ag, b, hb1, hyes, hno⟩
    have J : Inv X pins σ' H' sI := J'.ofTry ok
    refine Sky.land Zc.steady hfr hf (by rw [← hs]; exact sky) fun h3 fl3 up3 => ?_
    have J3 : Inv X pins σ' H' { s' with heap := h3 } := J.landed nb fl3.1 (up.trans up3) os ag
    obtain ⟨oe3, vs3, he3, hz3, hd3⟩ := fl3.there
    have notFr : a ∉ frs (X.env :: X.outer) := fun hm => by
      obtain ⟨_, o', e', hnf⟩ := fl3.2.2.1.mem hm
      rw [he3] at e'; cases e'
      exact hnf _ hd3
    have nL : a ≠ X.env.locals := fun z => notFr (List.mem_filterMap.mpr ⟨X.env, List.mem_cons_self, by rw [hf, z]⟩)
    have nF : a ∉ X.fs := fun hm => by
      obtain ⟨e, he, q⟩ := List.mem_filterMap.mp hm
      exact notFr (List.mem_filterMap.mpr ⟨e, List.mem_cons_of_mem _ he, q⟩)
    have nI : sI.heap.get? a = none := by
      cases e : sI.heap.get? a with
      | none => rfl
      | some o =>
        have q := nb a o e (by rw [hs]; exact notFr)
        rw [fl3.2.1] at q; cases q
    have n0 : X.s_0.heap.get? a = none := by
      cases e : X.s_0.heap.get? a with
      | none => rfl
      | some o =>
        obtain ⟨o', q⟩ := J.base.there a o e (by rw [hex]; exact fun z => nomatch z)
        rw [nI] at q; cases q
    have np' : ∀ p ∈ X.pn ++ pins, p.1 ≠ a := fun p hp z => by
      have q := (J.pin p hp).1
      rw [z, nI] at q; cases q
    have nc : ∀ y c, X.env.cells.lookup y = some c → c ≠ a := fun y c e z => by
      obtain ⟨v, q⟩ := J.cell y c e
      obtain ⟨oc, sl, q1, q2⟩ : ∃ oc : Obj, ∃ z : Unit, sI.heap.get? c = some oc ∧ True := by
        obtain ⟨oc, q1, _⟩ := q
        exact ⟨oc, (), q1, trivial⟩
      rw [z, nI] at q1; cases q1
    have S3 := J3.suite he3 hd3 na nL nF
    refine wpAny_handleBy_cons (codeAny_handlers_test ?_) (by intro q; cases q)
    have LT : PySem.W.Looks (model X.prog X.w) h3 (typeOf (.ref a)) cls := fun A Q E s k q => wpAny_typeOf_ref (k _ _ he3) (by rw [hz3.1]; exact q)
    have LM := PySem.W.exm_one (M := model X.prog X.w) (J3.kIn) LT hb1
    have test : ∀ {Q : Value → Shared → Prop} {E : Value → Shared → Prop}, Q c { s' with heap := h3 } → wpAny (model X.prog X.w) (X.A.mark (some (.ref a))) (eval (.Name x np) X.env) Q E { s' with heap := h3 } := fun {Q E} q => by
      obtain ⟨hg, hdbg, hm | ⟨hm, hv, hnn⟩⟩ := hc
      · exact ld_glob (X := X.suite a ((a, oe3) :: (X.pn ++ pins))) S3 hg hm q hdbg
      · exact ld_blt (X := X.suite a ((a, oe3) :: (X.pn ++ pins))) S3 hg hm hv q hnn hdbg
    refine test (LM.here ?_)
    cases b with
    | false =>
      show wpAny _ X.A (handleBy (.ref a) X.env []) _ _ _
      refine wpAny_handleBy_nil ?_
      obtain ⟨k1, k2, k3, oe, vs, T, oT, ts', he, hz, hd, h1, hr⟩ := id fl3
      unfold PySem.passOn
      refine wpAny_bind (wpAny_field he hd h1 ?_)
      rw [if_neg (show ¬ ((Value.ref T == Value.none) = true) from by simp)]
      have fin : wpAny (model X.prog X.w) X.A (setFlight (.ref a) X.env.frame) (fun _ s4 => wpAny (model X.prog X.w) X.A (throw (.ref a) : Sem Flow) (SP X pins D) X.xe s4) X.xe { s' with heap := h3 } := by
        rw [hf]
        refine HandSPX.setFlight_upZ fl3 fun h4 hh4 up4 => wpAny_throw (tk _ _ ?_)
        exact ⟨a, B, sI, pins, σ', H', cls, d, rfl, J, nb, (up.trans up3).trans up4, .inr (.inr (by rw [hs]; exact hh4)), na, os, ag, hno rfl⟩
      first
        | exact wpAny_bind (wpAny_pure (wpAny_bind fin))
        | exact wpAny_bind fin
    | true =>
      refine codeAny_handlers_suite_as ?_
      refine HandSPX.lands_againZ fl3 fun h4 fl4 up4 => ?_
      have J4 : Inv X pins σ' H' { s' with heap := h4 } := J.landed nb fl4.1 ((up.trans up3).trans up4) os ag
      obtain ⟨oe4, vs4, he4, hz4, hd4⟩ := fl4.there
      have S4 := J4.suite he4 hd4 na nL nF
      refine store_ok (X := X.suite a ((a, oe4) :: (X.pn ++ pins))) (v := .ref a) S4 hN hi (.inl hln) rfl (fun s5 S5 => ?_) (.inr hln)
      refine wpAny_mono ((hsu a oe4 cls d (X.pn ++ pins) hz4 ⟨_, hd4⟩).run [] s5 _ H' _ S5 (hyes rfl a na)) (fun f s6 hsp => ?_) (fun _ _ z => False.elim z)
      cases f with
      | next =>
        obtain ⟨σ6, H6, S6, na6, q6⟩ := hsp
        have p6 := S6.pin (a, oe4) (List.mem_append_left _ List.mem_cons_self)
        have A6 : Inv X pins σ6 (upd H6 a (cgt cls d a)) s6 := adopt (S6.unsuite ok) n0 na6 nL nc np' (cgt_ok p6.1 hz4 hd4)
        exact gone_ok A6 hN hi hln fun s7 J7 => ⟨_, _, J7, q6⟩
      | brk => obtain ⟨_, _, _, z⟩ := hsp; exact z.elim
      | cont => obtain ⟨_, _, _, z⟩ := hsp; exact z.elim
      | ret u => obtain ⟨_, _, _, _, _, z⟩ := hsp; exact z.elim
  refine wpAny_Try_except ?_
  refine wpAny_mono ((hb (wKeep X.K c i ts Wout D) (X.pn ++ pins) _ go PassesOwn.looking).run [] s σ H D (I.toTry _) h) (fun f s1 hsp => ?_) (fun e s1 he => he)
  cases f with
  | next =>
    obtain ⟨σ', H', J', q⟩ := hsp
    exact wpAny_execs_nil ⟨σ', H', J'.ofTry ok, q⟩
  | brk => obtain ⟨σ', H', J', q⟩ := hsp; exact ⟨σ', H', J'.ofTry ok, q⟩
  | cont => obtain ⟨σ', H', J', q⟩ := hsp; exact ⟨σ', H', J'.ofTry ok, q⟩
  | ret u => obtain ⟨v, σ', H', J', r, q⟩ := hsp; exact ⟨v, σ', H', J'.ofTry ok, r, q⟩
end
end RS
namespace RS
open PySem PySem.Spec PyProof.Rows L2
/-- what an own exception class must say, so that its kept instances are asked rightly -/
structure XcC (K : PySem.W.Frag) (C : Addr) : Prop where
  hcl : (PySem.W.clsIn K C).isSome = true
  hga : PySem.W.findIn K (.ref C) "__getattribute__" = some (some (.builtin "BaseException.__getattribute__"))
  hgt : PySem.W.findIn K (.ref C) "__getattr__" = some none
  hsub : PySem.W.subIn K (.ref C) (.type "BaseException") = some true
  hd : PySem.W.hasDictIn K C = true
  ha : PySem.W.findIn K (.ref C) "__class__" = some (some (.builtin "object.__class__"))
  hn : PySem.W.specialIn K (.builtin "object.__class__") "__get__" = some (some (.builtin "getset_descriptor.__get__"))
  htk : PySem.W.takesIn K (.builtin "object.__class__") = some true
  hm : PySem.W.mroIn K C (.type "object") = some true
section
variable {X : Cx} {pins : List (Addr × Obj)} {σ : L2.St} {H : Hp} {s : Shared} {a d C : Addr} {fs : List (Str × V)}
theorem cgt_inst (I : Inv X pins σ H s) (ea : H a = some (cgt (.ref C) (some d) a)) (ed : H d = some (.xd fs)) : ∃ (oe : Obj) (od : Obj) (mA : Str → Option Value), PySem.W.InstAt s.heap a oe C (some od) ∧ (∀ f, PySem.W.lookIn f od = some (mA f)) ∧ ∀ f, RelO (fs.lookup f) (mA f) := by
  have x : ObjOk X.prog X.w H s.heap a (.ext fun h => ∃ (oe : Obj) (vs : Array Value), h.get? a = some oe ∧ Zc (.ref C) (some d) oe ∧ oe.data = .fields vs) := I.hok a _ ea
  obtain ⟨⟨oe, vs, e1, z, dd⟩, _⟩ := x
  have hx : ObjOk X.prog X.w H s.heap d (.xd fs) := I.hok d _ ed
  obtain ⟨mA, hns, hr⟩ := hx
  obtain ⟨od, ho, hl⟩ := lookIn_ns hns
  exact ⟨oe, od, mA, ⟨e1, z.1, by unfold PySem.W.notCls; rw [dd] <;> rfl, by rw [z.2]; exact ho⟩, hl, hr⟩
def rIsX (K : PySem.W.Frag) : List V → Hp → VK → Prop := fun xs H Q => ∃ (a d C : Addr) (fs : List (Str × V)), H a = some (cgt (.ref C) (some d) a) ∧ H d = some (.xd fs) ∧ XcC K C ∧
  ((∃ (c : V) (cv : Value) (b : Bool), xs = [.ref a, c] ∧ ClsV c cv ∧ PySem.W.kitOne K (.ref C) cv = some b ∧ Q (.bl b) H) ∨
    ∃ (tp : Addr) (cs : List V) (us : List Value) (b : Bool), xs = [.ref a, .ref tp] ∧ H tp = some (.tup cs) ∧ Paired ClsV cs us ∧ PySem.W.kitAny K (.ref C) us = some b ∧ Q (.bl b) H)
theorem call_isX : CallR X (.builtin "isinstance") (rIsX X.K) := by
  intro pins s σ H xs us Q I r h
  obtain ⟨a, d, C, fs, ea, ed, T, h⟩ := h
  obtain ⟨oe, od, mA, J, _⟩ := cgt_inst I ea ed
  have Z := PySem.W.kitx_exc (x := a) (ox := oe) (od := some od) T.hcl T.hga T.hgt T.hsub T.ha T.hn T.htk T.hm
  rcases h with ⟨c, cv, b, rfl, k, e, q⟩ | ⟨tp, cs, ws, b, rfl, hT, k, e, q⟩
  · obtain ⟨u1, u2, rfl, r1, r2⟩ := vals2 r
    have e2 := k.eq r2
    subst e2
    obtain rfl : u1 = Value.ref a := r1
    exact PySem.W.kia_one Z I.kIn J e (fun z => nomatch z) fun tk => ⟨.bl b, H, I.tok tk, rfl, q⟩
  · obtain ⟨u1, u2, rfl, r1, r2⟩ := vals2 r
    cases (show u2 = Value.ref tp from r2)
    obtain rfl : u1 = Value.ref a := r1
    obtain ⟨_, its, rv, o, h1, h2, n, h3⟩ := (show ObjOk X.prog X.w H s.heap tp (.tup cs) from I.hok tp _ hT)
    have e3 := ClsV.all k rv
    subst e3
    obtain ⟨oc, od', dt, sl⟩ := o
    simp only at h2 h3
    subst h2 h3
    exact PySem.W.kia_tup Z I.kIn J h1 e (fun z => nomatch z) fun tk => ⟨.bl b, H, I.tok tk, rfl, q⟩
/-- e.f, e a kept exception -/
def tXk (K : PySem.W.Frag) (f : Str) (te : TE) : TE := fun σ H Q => te σ H fun x H1 => ∃ (a d C : Addr) (fs : List (Str × V)) (v : V), x = .ref a ∧ H1 a = some (cgt (.ref C) (some d) a) ∧ H1 d = some (.xd fs) ∧ XcC K C ∧ PySem.W.findIn K (.ref C) f = some none ∧ fs.lookup f = some v ∧ Q v H1
theorem pe_xk {e : Expr} {te : TE} {pos : Pos} {f : Str} (he : PE X e te) (hb : attributeBase e f X.env (eval e X.env) = eval e X.env := by rfl) : PE X (.Attribute e f pos) (tXk X.K f te) := by
  refine ⟨fun pins s σ H Q I h => ?_⟩
  refine attr_of hb (thn (he.run pins s σ H _ I h) fun u s1 hh => ?_)
  obtain ⟨x, H1, I1, rx, a, d, C, fs, v, ex, ea, ed, T, hno, l, q⟩ := hh
  subst ex
  obtain rfl : u = Value.ref a := rx
  obtain ⟨oe, od, mA, J, hl, hr⟩ := cgt_inst I1 ea ed
  obtain ⟨u, hu, ru⟩ := RelO.some_of (v := v) (o := mA f) (by rw [← l]; exact hr f)
  exact HandSPX.exc_get I1.kIn J T.hga T.hgt T.hsub (PySem.W.findObj_own T.hd hno rfl (by rw [hl, hu])) (handed_of ru) ⟨v, H1, I1.tok _, ru, q⟩
end
end RS
set_option Elab.async false
set_option linter.all false
set_option maxRecDepth 100000
set_option maxHeartbeats 4000000
/-! Rd3: a def held in a slot, called where what it raises is wished for at the caller's slots. -/
namespace RS
open PySem PySem.Spec PyProof.Rows L2
section
variable {X : Cx} {CXx : CXT} {k i : Nat} {ps : List Str} {sp : Sp} {E : L2.St → XK} {x : Str} {p pos : Pos} {e : Expr} {es : List Expr} {t : TA} {S : Addr → Prop}
def tCallLS (i : Nat) (S : Addr → Prop) (sp : Sp) (E : L2.St → XK) (t : TA) : TE := fun σ H Q => ∃ f, σ[i]? = some (some (.ref f)) ∧ S f ∧ t σ H fun vs H1 => sp vs H1 Q (E σ)
theorem passAt {W : WX} (tk : Takes X W) (σ : L2.St) : PassesAt (L2.CX X.prog X.w) X σ (fun cls d H => W cls d σ H) := fun _ _ _ e s' I c => tk e s' (XE.of_call I (fun _ _ _ h => h) c)
theorem pe_callLS (A : ∀ f, S f → ∃ fd, FnOk X.prog X.w X.K X.mg X.base CXx k f fd ps sp ∧ PySem.W.keepIn X.K (.ref f) = true ∧ Binds X.K fd ps []) (hr : Room k X.A) (hN : X.N[i]? = some x) (hv : Vis X.env.scope x) (hx : ∀ σ, PassesAt CXx X σ (E σ)) (ha : PA X (e :: es) t)
    (hdb : (x == ("__debug__" : Str)) = false := by decide +kernel) (hcd : (x == ("__classdict__" : Str)) = false := by decide +kernel)
    (he : starEach (e :: es) X.env = (false, eval e X.env) :: starEach es X.env := by rfl) (hpl : (backTo pos (starEach es X.env)).any (·.1) = false := by rfl) : PE X (.Call (.Name x p) (e :: es) [] pos) (tCallLS i S sp E t) := by
  refine ⟨fun pins s σ H Q I h => ?_⟩
  obtain ⟨f, hs, hS, ht⟩ := h
  obtain ⟨fd, F, hk, hb⟩ := A f hS
  refine wpAny_Call_Name_kw (thn ((pe_var (pos := p) hN hv hdb hcd).run pins s σ H (fun v H1 => v = .ref f ∧ H1 = H) I ⟨.ref f, hs, rfl, rfl⟩) fun u s1 ⟨v, H1, I1, r1, q1⟩ => ?_)
  obtain ⟨e1, e2⟩ := q1
  subst e1 e2
  cases r1
  refine PySem.W.callWith_K (h₀ := X.base) I.ok.mod.kin hk (thn (ha.run pos pins s1 σ _ _ I1 ht) fun us s2 ⟨vs, H2, I2, r, q⟩ => ⟨I2.kIn, ?_⟩) he hpl
  exact run_fnSD (dvs := []) (ds := []) F hr hb .nil (hx σ) I2 r (by rw [List.append_nil]; exact q)
end
end RS
set_option Elab.async false
set_option linter.all false
set_option maxRecDepth 100000
set_option maxHeartbeats 4000000
/-! Dk: readings over data: no heap, no addresses. A reading of the hand layer is lifted to one over data by a class. -/
namespace RS
open PySem L2

abbrev AS1 := Addr → Prop
def Zor (Z Y : AS1) : AS1 := fun a => Z a ∨ Y a
/-- the addresses of the lists that slots own -/
def Zos (os : Nat → Option Addr) : AS1 := fun a => ∃ i, os i = some a
/-- what may be changed: by the objects of the state, by the slots -/
def Zm (Zw : AS1) (os : Nat → Option Addr) : AS1 := fun a => Zw a ∨ ∃ i, os i = some a
def Zt (Zf Zw : AS1) (os : Nat → Option Addr) : AS1 := fun a => Zf a ∨ Zm Zw os a
def noOs : Nat → Option Addr := fun _ => none

def TupAt (K : PySem.W.Frag) (H : Hp) (a : Addr) (xs : List V) : Prop := H a = some (.tup xs) ∨ ∀ H', SqT K H' a xs
/-- a list that is only read: tracked or locked, or written -/
def RoAt (K : PySem.W.Frag) (Z : AS1) (H : Hp) (a : Addr) (xs : List V) : Prop := (¬ Z a ∧ ∃ o, H a = some o ∧ (o = .lst xs ∨ ∃ ob, o = .frz ob (.lst xs))) ∨ ∀ H', SqL K H' a xs
theorem RoAt.sqL {K : PySem.W.Frag} {Z : AS1} {H : Hp} {a : Addr} {xs : List V} (h : RoAt K Z H a xs) : SqL K H a xs := by
  rcases h with ⟨_, o, h, rfl | ⟨ob, rfl⟩⟩ | h
  · exact .inl (.inl h)
  · exact .inl (.inr ⟨ob, h⟩)
  · exact h H
theorem RoAt.of {K : PySem.W.Frag} {Z : AS1} {H : Hp} {a : Addr} {xs : List V} (h : SqL K H a xs) (n : ¬ Z a) : RoAt K Z H a xs := by
  rcases h with (h | ⟨ob, h⟩) | h
  · exact .inl ⟨n, _, h, .inl rfl⟩
  · exact .inl ⟨n, _, h, .inr ⟨ob, rfl⟩⟩
  · exact .inr fun _ => .inr h
theorem TupAt.sqT {K : PySem.W.Frag} {H : Hp} {a : Addr} {xs : List V} (h : TupAt K H a xs) : SqT K H a xs := h.elim (fun e => .inl (.inl e)) fun q => q H
mutual
/-- a datum at a value; its lists stand outside Z -/
def Rp (K : PySem.W.Frag) (Z : AS1) (H : Hp) : PD → V → Prop
  | .non, v => v = .non
  | .bl b, v => v = .bl b
  | .int i, v => v = .int i
  | .str s, v => v = .str s
  | .ref a, v => v = .ref a
  | .ty n, v => v = .ty n
  | .tup ds, v => ∃ a xs, v = .ref a ∧ TupAt K H a xs ∧ Rps K Z H ds xs
  | .lst ds, v => ∃ a xs, v = .ref a ∧ ¬ Z a ∧ H a = some (.lst xs) ∧ Rps K Z H ds xs
  | .ro ds, v => ∃ a xs, v = .ref a ∧ RoAt K Z H a xs ∧ Rps K Z H ds xs
def Rps (K : PySem.W.Frag) (Z : AS1) (H : Hp) : List PD → List V → Prop
  | [], xs => xs = []
  | d :: ds, xs => ∃ x r, xs = x :: r ∧ Rp K Z H d x ∧ Rps K Z H ds r
end
structure Ext (Z Z' : AS1) (H H' : Hp) : Prop where
  keep : ∀ a o, H a = some o → ¬ Z a → H' a = some o
  tup : ∀ a xs, H a = some (.tup xs) → H' a = some (.tup xs)
  live : ∀ a o, H a = some o → ∃ o', H' a = some o'
  sub : ∀ a, Z' a → Z a ∨ H a = none
section
variable {K : PySem.W.Frag} {Z Z' Z'' Zf Y : AS1} {H H' H'' : Hp} {a : Addr} {o : HO} {xs : List V}
theorem Ext.free (x : Ext Z Z' H H') (h : H' a = none) : H a = none := by
  cases e : H a with
  | none => rfl
  | some o => obtain ⟨o', q⟩ := x.live a o e; rw [h] at q; cases q
theorem Ext.refl : Ext Z Z H H := ⟨fun _ _ h _ => h, fun _ _ h => h, fun _ o h => ⟨o, h⟩, fun _ h => .inl h⟩
theorem Ext.trans (x : Ext Z Z' H H') (y : Ext Z' Z'' H' H'') : Ext Z Z'' H H'' :=
  ⟨fun a o h n => y.keep a o (x.keep a o h n) fun z => (x.sub a z).elim n fun e => (by rw [h] at e; cases e), fun a xs h => y.tup _ _ (x.tup a xs h),
   fun a o h => let ⟨o1, h1⟩ := x.live a o h; y.live a o1 h1, fun a z => (y.sub a z).elim (x.sub a) fun e => .inr (x.free e)⟩
theorem Ext.less (x : Ext Z Z' H H') (h : ∀ a, Y a → Z' a) : Ext Z Y H H' := ⟨x.keep, x.tup, x.live, fun a z => x.sub a (h a z)⟩
theorem Ext.more (x : Ext Z Z' H H') (h : ∀ a, Z a → Y a) : Ext Y Z' H H' := ⟨fun a o e n => x.keep a o e fun z => n (h a z), x.tup, x.live, fun a z => (x.sub a z).imp (h a) id⟩
theorem Gr.ext (g : Gr [] H H') : Ext Z Z H H' := ⟨fun a o h _ => g.get0 h, g.tup, g.live, fun _ h => .inl h⟩
theorem TupAt.ext (x : Ext Z Z' H H') (h : TupAt K H a xs) : TupAt K H' a xs := h.imp (x.tup a xs) id
end
mutual
theorem Rp.ext {K : PySem.W.Frag} {Zf Z Z' : AS1} {H H' : Hp} (x : Ext Z Z' H H') : ∀ {d : PD} {v : V}, Rp K (Zor Zf Z) H d v → Rp K (Zor Zf Z') H' d v
  | .non, _, h => h
  | .bl _, _, h => h
  | .int _, _, h => h
  | .str _, _, h => h
  | .ref _, _, h => h
  | .ty _, _, h => h
  | .tup ds, v, h => by
    unfold Rp at h ⊢
    obtain ⟨a, xs, h1, h2, h3⟩ := h
    exact ⟨a, xs, h1, h2.ext x, Rps.ext x h3⟩
  | .lst ds, v, h => by
    unfold Rp at h ⊢
    obtain ⟨a, xs, h1, hn, h2, h3⟩ := h
    exact ⟨a, xs, h1, fun z => z.elim (fun z => hn (.inl z)) fun z => (x.sub a z).elim (fun z => hn (.inr z)) fun e => (by rw [h2] at e; cases e), x.keep _ _ h2 fun z => hn (.inr z), Rps.ext x h3⟩
  | .ro ds, v, h => by
    unfold Rp at h ⊢
    obtain ⟨a, xs, h1, h2, h3⟩ := h
    refine ⟨a, xs, h1, ?_, Rps.ext x h3⟩
    rcases h2 with ⟨hn, o, h2, h4⟩ | h2
    · exact .inl ⟨fun z => z.elim (fun z => hn (.inl z)) fun z => (x.sub a z).elim (fun z => hn (.inr z)) fun e => (by rw [h2] at e; cases e), o, x.keep _ _ h2 fun z => hn (.inr z), h4⟩
    · exact .inr h2
theorem Rps.ext {K : PySem.W.Frag} {Zf Z Z' : AS1} {H H' : Hp} (x : Ext Z Z' H H') : ∀ {ds : List PD} {vs : List V}, Rps K (Zor Zf Z) H ds vs → Rps K (Zor Zf Z') H' ds vs
  | [], _, h => h
  | d :: ds, xs, h => by
    unfold Rps at h ⊢
    obtain ⟨y, r, h1, h2, h3⟩ := h
    exact ⟨y, r, h1, Rp.ext x h2, Rps.ext x h3⟩
end
mutual
theorem Rp.less {K : PySem.W.Frag} {Z Y : AS1} {H : Hp} (x : ∀ a, Y a → Z a) : ∀ {d : PD} {v : V}, Rp K Z H d v → Rp K Y H d v
  | .non, _, h => h
  | .bl _, _, h => h
  | .int _, _, h => h
  | .str _, _, h => h
  | .ref _, _, h => h
  | .ty _, _, h => h
  | .tup ds, v, h => by
    unfold Rp at h ⊢
    obtain ⟨a, xs, h1, h2, h3⟩ := h
    exact ⟨a, xs, h1, h2, Rps.less x h3⟩
  | .lst ds, v, h => by
    unfold Rp at h ⊢
    obtain ⟨a, xs, h1, hn, h2, h3⟩ := h
    exact ⟨a, xs, h1, fun z => hn (x a z), h2, Rps.less x h3⟩
  | .ro ds, v, h => by
    unfold Rp at h ⊢
    obtain ⟨a, xs, h1, h2, h3⟩ := h
    exact ⟨a, xs, h1, h2.imp (fun ⟨hn, q⟩ => ⟨fun z => hn (x a z), q⟩) id, Rps.less x h3⟩
theorem Rps.less {K : PySem.W.Frag} {Z Y : AS1} {H : Hp} (x : ∀ a, Y a → Z a) : ∀ {ds : List PD} {vs : List V}, Rps K Z H ds vs → Rps K Y H ds vs
  | [], _, h => h
  | d :: ds, xs, h => by
    unfold Rps at h ⊢
    obtain ⟨y, r, h1, h2, h3⟩ := h
    exact ⟨y, r, h1, Rp.less x h2, Rps.less x h3⟩
end
/-- a new address in Z does no harm -/
theorem Rp.addZ {K : PySem.W.Frag} {Z : AS1} {H : Hp} {p : Addr} : ∀ {d : PD} {v : V}, H p = none → Rp K Z H d v → Rp K (fun a => Z a ∨ a = p) H d v := by
  intro d v hp h
  have x : Ext Z (fun a => Z a ∨ a = p) H H := ⟨fun _ _ h _ => h, fun _ _ h => h, fun _ o h => ⟨o, h⟩, fun a z => z.imp id fun e => by rw [e]; exact hp⟩
  have h' : Rp K (Zor (fun _ => False) Z) H d v := h.less fun a z => z.elim False.elim id
  exact (h'.ext x).less fun a z => .inr z
theorem Rps.addZ {K : PySem.W.Frag} {Z : AS1} {H : Hp} {p : Addr} : ∀ {d : List PD} {v : List V}, H p = none → Rps K Z H d v → Rps K (fun a => Z a ∨ a = p) H d v := by
  intro d v hp h
  have x : Ext Z (fun a => Z a ∨ a = p) H H := ⟨fun _ _ h _ => h, fun _ _ h => h, fun _ o h => ⟨o, h⟩, fun a z => z.imp id fun e => by rw [e]; exact hp⟩
  have h' : Rps K (Zor (fun _ => False) Z) H d v := h.less fun a z => z.elim False.elim id
  exact (h'.ext x).less fun a z => .inr z
section
variable {K : PySem.W.Frag} {Z : AS1} {H H' : Hp}
theorem Rp.gr {d : PD} {v : V} (g : Gr [] H H') (h : Rp K Z H d v) : Rp K Z H' d v := by
  have h' : Rp K (Zor Z (fun _ => False)) H d v := h.less fun a z => z.elim id False.elim
  exact (h'.ext (Gr.ext g)).less fun a z => .inl z
theorem Rps.gr {d : List PD} {v : List V} (g : Gr [] H H') (h : Rps K Z H d v) : Rps K Z H' d v := by
  have h' : Rps K (Zor Z (fun _ => False)) H d v := h.less fun a z => z.elim id False.elim
  exact (h'.ext (Gr.ext g)).less fun a z => .inl z
theorem rps_nil : Rps K Z H [] [] := by unfold Rps; rfl
theorem rps_cons {d : PD} {ds : List PD} {x : V} {xs : List V} (h : Rp K Z H d x) (r : Rps K Z H ds xs) : Rps K Z H (d :: ds) (x :: xs) := by unfold Rps; exact ⟨x, xs, rfl, h, r⟩
theorem rps_nil' {xs : List V} (h : Rps K Z H [] xs) : xs = [] := by unfold Rps at h; exact h
theorem rps_cons' {d : PD} {ds : List PD} {xs : List V} (h : Rps K Z H (d :: ds) xs) : ∃ x r, xs = x :: r ∧ Rp K Z H d x ∧ Rps K Z H ds r := by unfold Rps at h; exact h
theorem rps_append : ∀ {ds es : List PD} {xs ys : List V}, Rps K Z H ds xs → Rps K Z H es ys → Rps K Z H (ds ++ es) (xs ++ ys)
  | [], _, _, _, h, r => by rw [rps_nil' h]; exact r
  | d :: ds, es, xs, ys, h, r => by
    obtain ⟨x, t, rfl, h1, h2⟩ := rps_cons' h
    exact rps_cons h1 (rps_append h2 r)
theorem rps_len : ∀ {ds : List PD} {xs : List V}, Rps K Z H ds xs → xs.length = ds.length
  | [], _, h => by rw [rps_nil' h]; rfl
  | d :: ds, xs, h => by
    obtain ⟨x, r, rfl, _, h3⟩ := rps_cons' h
    simp [rps_len h3]
theorem rps_get' : ∀ {ds : List PD} {xs : List V} {i : Nat} {d : PD}, Rps K Z H ds xs → ds[i]? = some d → ∃ x, xs[i]? = some x ∧ Rp K Z H d x
  | [], _, i, x, h, e => by simp at e
  | d :: ds, xs, i, x, h, e => by
    obtain ⟨y, r, rfl, h1, h3⟩ := rps_cons' h
    cases i with
    | zero => simp at e; subst e; exact ⟨y, rfl, h1⟩
    | succ i => simp at e; obtain ⟨d', q, t⟩ := rps_get' h3 e; exact ⟨d', by simpa using q, t⟩
theorem rps_get : ∀ {ds : List PD} {xs : List V} {i : Nat} {x : V}, Rps K Z H ds xs → xs[i]? = some x → ∃ d, ds[i]? = some d ∧ Rp K Z H d x
  | [], _, i, x, h, e => by rw [rps_nil' h] at e; simp at e
  | d :: ds, xs, i, x, h, e => by
    obtain ⟨y, r, rfl, h1, h3⟩ := rps_cons' h
    cases i with
    | zero => simp at e; subst e; exact ⟨d, rfl, h1⟩
    | succ i => simp at e; obtain ⟨d', q, t⟩ := rps_get h3 e; exact ⟨d', by simpa using q, t⟩
theorem rps_take : ∀ {ds : List PD} {xs : List V} (n : Nat), Rps K Z H ds xs → Rps K Z H (ds.take n) (xs.take n)
  | [], _, n, h => by rw [rps_nil' h]; simp; exact rps_nil
  | d :: ds, xs, n, h => by
    obtain ⟨y, r, rfl, h1, h3⟩ := rps_cons' h
    cases n with
    | zero => exact rps_nil
    | succ n => exact rps_cons h1 (rps_take n h3)
theorem rps_drop : ∀ {ds : List PD} {xs : List V} (n : Nat), Rps K Z H ds xs → Rps K Z H (ds.drop n) (xs.drop n)
  | [], _, n, h => by rw [rps_nil' h]; simp; exact rps_nil
  | d :: ds, xs, n, h => by
    obtain ⟨y, r, rfl, h1, h3⟩ := rps_cons' h
    cases n with
    | zero => exact rps_cons h1 h3
    | succ n => exact rps_drop n h3
theorem rps_set : ∀ {ds : List PD} {xs : List V} {d : PD} {x : V} (n : Nat), Rps K Z H ds xs → Rp K Z H d x → Rps K Z H (ds.set n d) (xs.set n x)
  | [], _, _, _, n, h, _ => by rw [rps_nil' h]; simp; exact rps_nil
  | d :: ds, xs, e, z, n, h, q => by
    obtain ⟨y, r, rfl, h1, h3⟩ := rps_cons' h
    cases n with
    | zero => exact rps_cons q h3
    | succ n => exact rps_cons h1 (rps_set n h3 q)
theorem rps_rev : ∀ {ds : List PD} {xs : List V}, Rps K Z H ds xs → Rps K Z H ds.reverse xs.reverse
  | [], _, h => by rw [rps_nil' h]; exact rps_nil
  | d :: ds, xs, h => by
    obtain ⟨y, r, rfl, h1, h3⟩ := rps_cons' h
    rw [List.reverse_cons, List.reverse_cons]
    exact rps_append (rps_rev h3) (rps_cons h1 rps_nil)
theorem rps_strs : ∀ (ss : List Str), Rps K Z H (ss.map PD.str) (ss.map V.str)
  | [] => rps_nil
  | s :: ss => rps_cons (by unfold Rp; rfl) (rps_strs ss)
theorem rps_ints : ∀ (ss : List Int), Rps K Z H (ss.map PD.int) (ss.map V.int)
  | [] => rps_nil
  | s :: ss => rps_cons (by unfold Rp; rfl) (rps_ints ss)
theorem rps_bls : ∀ (ss : List Bool), Rps K Z H (ss.map PD.bl) (ss.map V.bl)
  | [] => rps_nil
  | s :: ss => rps_cons (by unfold Rp; rfl) (rps_bls ss)
theorem rps_strs' : ∀ {ss : List Str} {xs : List V}, Rps K Z H (ss.map PD.str) xs → xs = ss.map V.str
  | [], _, h => rps_nil' h
  | s :: ss, xs, h => by
    obtain ⟨y, r, rfl, h1, h3⟩ := rps_cons' h
    unfold Rp at h1
    rw [h1, rps_strs' h3]; rfl
theorem rps_ints' : ∀ {ss : List Int} {xs : List V}, Rps K Z H (ss.map PD.int) xs → xs = ss.map V.int
  | [], _, h => rps_nil' h
  | s :: ss, xs, h => by
    obtain ⟨y, r, rfl, h1, h3⟩ := rps_cons' h
    unfold Rp at h1
    rw [h1, rps_ints' h3]; rfl
theorem rps_bls' : ∀ {ss : List Bool} {xs : List V}, Rps K Z H (ss.map PD.bl) xs → xs = ss.map V.bl
  | [], _, h => rps_nil' h
  | s :: ss, xs, h => by
    obtain ⟨y, r, rfl, h1, h3⟩ := rps_cons' h
    unfold Rp at h1
    rw [h1, rps_bls' h3]; rfl
theorem rp_non {v : V} (h : Rp K Z H .non v) : v = .non := by unfold Rp at h; exact h
theorem rp_bl {v : V} {b : Bool} (h : Rp K Z H (.bl b) v) : v = .bl b := by unfold Rp at h; exact h
theorem rp_int {v : V} {b : Int} (h : Rp K Z H (.int b) v) : v = .int b := by unfold Rp at h; exact h
theorem rp_str {v : V} {b : Str} (h : Rp K Z H (.str b) v) : v = .str b := by unfold Rp at h; exact h
theorem rp_ref {v : V} {b : Addr} (h : Rp K Z H (.ref b) v) : v = .ref b := by unfold Rp at h; exact h
theorem rp_ty {v : V} {b : String} (h : Rp K Z H (.ty b) v) : v = .ty b := by unfold Rp at h; exact h
theorem rp_tup {v : V} {ds : List PD} (h : Rp K Z H (.tup ds) v) : ∃ a xs, v = .ref a ∧ TupAt K H a xs ∧ Rps K Z H ds xs := by unfold Rp at h; exact h
theorem rp_lst {v : V} {ds : List PD} (h : Rp K Z H (.lst ds) v) : ∃ a xs, v = .ref a ∧ ¬ Z a ∧ H a = some (.lst xs) ∧ Rps K Z H ds xs := by unfold Rp at h; exact h
theorem rp_ro {v : V} {ds : List PD} (h : Rp K Z H (.ro ds) v) : ∃ a xs, v = .ref a ∧ RoAt K Z H a xs ∧ Rps K Z H ds xs := by unfold Rp at h; exact h
theorem mk_ro {a : Addr} {xs : List V} {ds : List PD} (h : RoAt K Z H a xs) (r : Rps K Z H ds xs) : Rp K Z H (.ro ds) (.ref a) := by unfold Rp; exact ⟨a, xs, rfl, h, r⟩
theorem mk_non : Rp K Z H .non .non := by unfold Rp; rfl
theorem mk_bl {b : Bool} : Rp K Z H (.bl b) (.bl b) := by unfold Rp; rfl
theorem mk_int {b : Int} : Rp K Z H (.int b) (.int b) := by unfold Rp; rfl
theorem mk_str {b : Str} : Rp K Z H (.str b) (.str b) := by unfold Rp; rfl
theorem mk_ref {b : Addr} : Rp K Z H (.ref b) (.ref b) := by unfold Rp; rfl
theorem mk_ty {b : String} : Rp K Z H (.ty b) (.ty b) := by unfold Rp; rfl
theorem mk_tup {a : Addr} {xs : List V} {ds : List PD} (h : H a = some (.tup xs)) (r : Rps K Z H ds xs) : Rp K Z H (.tup ds) (.ref a) := by unfold Rp; exact ⟨a, xs, rfl, .inl h, r⟩
theorem mk_lst {a : Addr} {xs : List V} {ds : List PD} (h : H a = some (.lst xs)) (n : ¬ Z a) (r : Rps K Z H ds xs) : Rp K Z H (.lst ds) (.ref a) := by unfold Rp; exact ⟨a, xs, rfl, n, h, r⟩
end

theorem get_set {α : Type} {l : List (Option α)} {i j : Nat} {x : Option α} {s : α} (h : (l.set i x)[j]? = some (some s)) : (i = j ∧ i < l.length ∧ x = some s) ∨ (i ≠ j ∧ l[j]? = some (some s)) := by
  by_cases hji : i = j
  · subst hji
    by_cases hl : i < l.length
    · rw [List.getElem?_set_self hl] at h
      exact .inl ⟨rfl, hl, Option.some.inj h⟩
    · rw [List.getElem?_eq_none (by rw [List.length_set]; omega)] at h
      cases h
  · rw [List.getElem?_set_ne hji] at h
    exact .inr ⟨hji, h⟩
/-! ### the state's objects; the slots -/
structure WM (W : Type) where
  R : W → AS1 → Hp → Prop
  keep : ∀ w Z H H', R w Z H → (∀ a, Z a → H' a = H a) → (∀ a xs, H a = some (.tup xs) → H' a = some (.tup xs)) → R w Z H'
  live : ∀ w Z H a, R w Z H → Z a → ∃ o, H a = some o
/-- a slot: a datum, a list of its own -/
inductive Sl where
  | va (d : PD) | ow (ds : List PD)
abbrev En := List (Option Sl)
structure Rl {W : Type} (M : WM W) (K : PySem.W.Frag) (Zf Zw : AS1) (os : Nat → Option Addr) (e : En) (w : W) (σ : L2.St) (H : Hp) : Prop where
  va : ∀ (i : Nat) d, e[i]? = some (some (Sl.va d)) → ∃ v, σ[i]? = some (some v) ∧ Rp K (Zt Zf Zw os) H d v
  ow : ∀ (i : Nat) ds, e[i]? = some (some (Sl.ow ds)) → ∃ a xs, os i = some a ∧ σ[i]? = some (some (.ref a)) ∧ H a = some (.lst xs) ∧ Rps K (Zt Zf Zw os) H ds xs
  len : e.length = σ.length
  inj : ∀ i j a, os i = some a → os j = some a → i = j
  dis : ∀ i a, os i = some a → ¬ Zf a ∧ ¬ Zw a ∧ ∃ ds, e[i]? = some (some (Sl.ow ds))
  fw : ∀ a, Zf a → ¬ Zw a
  fl : ∀ a, Zf a → ∃ o, H a = some o
  m : M.R w Zw H
abbrev XA (W : Type) := Addr × PD → W → Prop
/-- what is raised reaches what is wished for -/
def XOk {W : Type} (M : WM W) (K : PySem.W.Frag) (XE : XK) (AX : XA W) (Zf Z : AS1) (H : Hp) : Prop := ∀ (C dx : Addr) (d : PD) (v : V) (w : W) (H' : Hp) (Zw : AS1),
  M.R w Zw H' → (∀ a, Zf a → ¬ Zw a) → Ext Z Zw H H' → H' dx = none → Rp K (Zor Zf Zw) H' d v → AX (C, d) w → XE (.ref C) (some dx) (upd H' dx (.xd [("what", v)]))
section
variable {W : Type} {M : WM W} {K : PySem.W.Frag} {Zf Zw Zw' Z Z' : AS1} {os os' : Nat → Option Addr} {e e' : En} {w w' : W} {σ σ' : L2.St} {H H' : Hp} {XE : XK} {AX : XA W}
theorem Rl.live (r : Rl M K Zf Zw os e w σ H) {a : Addr} (z : Zt Zf Zw os a) : ∃ o, H a = some o := by
  rcases z with z | z | ⟨i, z⟩
  · exact r.fl a z
  · exact M.live _ _ _ _ r.m z
  · obtain ⟨_, _, ds, q⟩ := r.dis i a z
    obtain ⟨b, xs, h1, _, h3, _⟩ := r.ow i ds q
    rw [z] at h1; cases h1
    exact ⟨_, h3⟩
theorem Rl.new (r : Rl M K Zf Zw os e w σ H) {a : Addr} (h : H a = none) : ¬ Zt Zf Zw os a := fun z => by obtain ⟨o, q⟩ := r.live z; rw [h] at q; cases q
theorem Zt_or : Zt Zf Zw os = Zor Zf (Zm Zw os) := rfl
theorem XOk.ext (x : XOk M K XE AX Zf Z H) (y : Ext Z Z' H H') : XOk M K XE AX Zf Z' H' := fun C dx d v w H'' Zw m f e n q k => x C dx d v w H'' Zw m f (y.trans e) n q k
theorem Rl.noTup (r : Rl M K Zf Zw os e w σ H) {a : Addr} {i : Nat} {xs : List V} (z : os i = some a) : H a ≠ some (.tup xs) := by
  obtain ⟨_, _, ds, q⟩ := r.dis i a z
  obtain ⟨b, ys, h1, _, h3, _⟩ := r.ow i ds q
  rw [z] at h1; cases h1
  rw [h3]; intro h; cases h
/-- new objects -/
theorem Rl.gr (r : Rl M K Zf Zw os e w σ H) (g : Gr [] H H') : Rl M K Zf Zw os e w σ H' where
  va i d h := let ⟨v, h1, h2⟩ := r.va i d h; ⟨v, h1, h2.gr g⟩
  ow i ds h := let ⟨a, xs, h1, h2, h3, h4⟩ := r.ow i ds h; ⟨a, xs, h1, h2, g.get0 h3, h4.gr g⟩
  len := r.len
  inj := r.inj
  dis := r.dis
  fw := r.fw
  fl a z := let ⟨o, h⟩ := r.fl a z; ⟨o, g.get0 h⟩
  m := M.keep _ _ _ _ r.m (fun a z => by obtain ⟨o, h⟩ := M.live _ _ _ a r.m z; rw [h, g.get0 h]) g.tup
/-- a slot is put -/
def osOff (os : Nat → Option Addr) (i : Nat) : Nat → Option Addr := fun j => if j = i then none else os j
def osOn (os : Nat → Option Addr) (i : Nat) (a : Addr) : Nat → Option Addr := fun j => if j = i then some a else os j
theorem Zm_off {a : Addr} {i : Nat} (z : Zm Zw (osOff os i) a) : Zm Zw os a := z.imp id fun ⟨j, h⟩ => ⟨j, by unfold osOff at h; split at h; cases h; exact h⟩
theorem Zt_off {a : Addr} {i : Nat} (z : Zt Zf Zw (osOff os i) a) : Zt Zf Zw os a := z.imp id Zm_off
theorem Rl.setVa (r : Rl M K Zf Zw os e w σ H) (i : Nat) {d : PD} {v : V} (h : Rp K (Zt Zf Zw os) H d v) : Rl M K Zf Zw (osOff os i) (e.set i (some (.va d))) w (σ.set i (some v)) H where
  va j d' q := by
    rcases get_set q with ⟨rfl, hl, q⟩ | ⟨hji, q⟩
    · cases q
      exact ⟨v, List.getElem?_set_self (by rw [← r.len]; exact hl), h.less fun a z => Zt_off z⟩
    · obtain ⟨u, h1, h2⟩ := r.va j d' q
      exact ⟨u, by rw [List.getElem?_set_ne hji]; exact h1, h2.less fun a z => Zt_off z⟩
  ow j ds q := by
    rcases get_set q with ⟨rfl, hl, q⟩ | ⟨hji, q⟩
    · cases q
    · obtain ⟨a, xs, h1, h2, h3, h4⟩ := r.ow j ds q
      exact ⟨a, xs, by unfold osOff; rw [if_neg (Ne.symm hji)]; exact h1, by rw [List.getElem?_set_ne hji]; exact h2, h3, h4.less fun a z => Zt_off z⟩
  len := by rw [List.length_set, List.length_set]; exact r.len
  inj j l a h1 h2 := by
    unfold osOff at h1 h2
    split at h1 <;> split at h2 <;> first | cases h1 | cases h2 | exact r.inj j l a h1 h2
  dis j a q := by
    unfold osOff at q
    split at q
    · cases q
    · rename_i hn
      obtain ⟨h1, h2, ds, h3⟩ := r.dis j a q
      exact ⟨h1, h2, ds, by rw [List.getElem?_set_ne (Ne.symm hn)]; exact h3⟩
  fw := r.fw
  fl := r.fl
  m := r.m
/-- a slot gets a new list of its own -/
theorem Rl.setOw (r : Rl M K Zf Zw os e w σ H) (i : Nat) {ds : List PD} {p : Addr} {xs : List V} (g : Gr [] H H') (hp : H p = none) (h1 : H' p = some (.lst xs)) (h : Rps K (Zt Zf Zw os) H ds xs) (hl0 : i < e.length) :
    Rl M K Zf Zw (osOn os i p) (e.set i (some (.ow ds))) w (σ.set i (some (.ref p))) H' := by
  have add : ∀ a, Zt Zf Zw (osOn os i p) a → (Zt Zf Zw os a ∨ a = p) := by
    intro a z
    rcases z with z | z | ⟨j, z⟩
    · exact .inl (.inl z)
    · exact .inl (.inr (.inl z))
    · unfold osOn at z
      split at z
      · cases z; exact .inr rfl
      · exact .inl (.inr (.inr ⟨j, z⟩))
  have up : ∀ {d : PD} {v : V}, Rp K (Zt Zf Zw os) H d v → Rp K (Zt Zf Zw (osOn os i p)) H' d v := fun h => ((h.addZ hp).less add).gr g
  have ups : ∀ {d : List PD} {v : List V}, Rps K (Zt Zf Zw os) H d v → Rps K (Zt Zf Zw (osOn os i p)) H' d v := fun h => ((h.addZ hp).less add).gr g
  have np : ¬ Zt Zf Zw os p := r.new hp
  exact {
    va := fun j d' q => by
      rcases get_set q with ⟨rfl, hl, q⟩ | ⟨hji, q⟩
      · cases q
      · obtain ⟨u, h1, h2⟩ := r.va j d' q
        exact ⟨u, by rw [List.getElem?_set_ne hji]; exact h1, up h2⟩
    ow := fun j ds' q => by
      rcases get_set q with ⟨rfl, hl, q⟩ | ⟨hji, q⟩
      · cases q
        exact ⟨p, xs, by unfold osOn; rw [if_pos rfl], List.getElem?_set_self (by rw [← r.len]; exact hl), h1, ups h⟩
      · obtain ⟨a, ys, k1, k2, k3, k4⟩ := r.ow j ds' q
        exact ⟨a, ys, by unfold osOn; rw [if_neg (Ne.symm hji)]; exact k1, by rw [List.getElem?_set_ne hji]; exact k2, g.get0 k3, ups k4⟩
    len := by rw [List.length_set, List.length_set]; exact r.len
    inj := fun j l a h1 h2 => by
      unfold osOn at h1 h2
      split at h1 <;> split at h2
      · rename_i x y; rw [x, y]
      · cases h1; exact absurd (Or.inr (Or.inr ⟨_, h2⟩)) np
      · cases h2; exact absurd (Or.inr (Or.inr ⟨_, h1⟩)) np
      · exact r.inj j l a h1 h2
    dis := fun j a q => by
      unfold osOn at q
      split at q
      · rename_i hj
        cases q
        subst hj
        exact ⟨fun z => np (.inl z), fun z => np (.inr (.inl z)), ds, List.getElem?_set_self hl0⟩
      · rename_i hn
        obtain ⟨h1, h2, ds, h3⟩ := r.dis j a q
        exact ⟨h1, h2, ds, by rw [List.getElem?_set_ne (Ne.symm hn)]; exact h3⟩
    fw := r.fw
    fl := fun a z => let ⟨o, h⟩ := r.fl a z; ⟨o, g.get0 h⟩
    m := M.keep _ _ _ _ r.m (fun a z => by obtain ⟨o, h⟩ := M.live _ _ _ a r.m z; rw [h, g.get0 h]) g.tup }
/-- a slot's own list becomes a datum -/
theorem Rl.freeze (r : Rl M K Zf Zw os e w σ H) {i : Nat} {ds : List PD} (h : e[i]? = some (some (.ow ds))) :
    ∃ v, σ[i]? = some (some v) ∧ Rp K (Zt Zf Zw (osOff os i)) H (.lst ds) v ∧ Rl M K Zf Zw (osOff os i) (e.set i (some (.va (.lst ds)))) w σ H := by
  obtain ⟨a, xs, h1, h2, h3, h4⟩ := r.ow i ds h
  have na : ¬ Zt Zf Zw (osOff os i) a := by
    obtain ⟨k1, k2, _⟩ := r.dis i a h1
    rintro (z | z | ⟨j, z⟩)
    · exact k1 z
    · exact k2 z
    · unfold osOff at z
      split at z
      · cases z
      · rename_i hn; exact hn (r.inj _ _ _ z h1)
  have hv : Rp K (Zt Zf Zw (osOff os i)) H (.lst ds) (.ref a) := mk_lst h3 na (h4.less fun a z => Zt_off z)
  refine ⟨.ref a, h2, hv, ?_⟩
  exact {
    va := fun j d' q => by
      rcases get_set q with ⟨rfl, hl, q⟩ | ⟨hji, q⟩
      · cases q
        exact ⟨.ref a, h2, hv⟩
      · obtain ⟨u, h1, h2⟩ := r.va j d' q
        exact ⟨u, h1, h2.less fun a z => Zt_off z⟩
    ow := fun j ds q => by
      rcases get_set q with ⟨rfl, hl, q⟩ | ⟨hji, q⟩
      · cases q
      · obtain ⟨a, xs, h1, h2, h3, h4⟩ := r.ow j ds q
        exact ⟨a, xs, by unfold osOff; rw [if_neg (Ne.symm hji)]; exact h1, h2, h3, h4.less fun a z => Zt_off z⟩
    len := by rw [List.length_set]; exact r.len
    inj := fun j l a h1 h2 => by
      unfold osOff at h1 h2
      split at h1 <;> split at h2 <;> first | cases h1 | cases h2 | exact r.inj j l a h1 h2
    dis := fun j a q => by
      unfold osOff at q
      split at q
      · cases q
      · rename_i hn
        obtain ⟨h1, h2, ds, h3⟩ := r.dis j a q
        exact ⟨h1, h2, ds, by rw [List.getElem?_set_ne (Ne.symm hn)]; exact h3⟩
    fw := r.fw
    fl := r.fl
    m := r.m }
/-- a slot's own list is changed -/
theorem Rl.put (r : Rl M K Zf Zw os e w σ H) {i : Nat} {ds ds' : List PD} {a : Addr} {xs xs' : List V} (h : e[i]? = some (some (.ow ds))) (h1 : os i = some a) (h3 : H a = some (.lst xs)) (h4 : Rps K (Zt Zf Zw os) H ds' xs') :
    Rl M K Zf Zw os (e.set i (some (.ow ds'))) w σ (upd H a (.lst xs')) ∧ Ext (Zm Zw os) (Zm Zw os) H (upd H a (.lst xs')) := by
  have x : Ext (Zm Zw os) (Zm Zw os) H (upd H a (.lst xs')) := by
    refine ⟨fun b o q n => ?_, fun b ys q => ?_, fun b o q => ?_, fun b z => .inl z⟩
    · rw [upd_ne (fun z => n (.inr ⟨i, by rw [z]; exact h1⟩))]; exact q
    · rw [upd_ne (fun z => by subst z; rw [h3] at q; cases q)]; exact q
    · by_cases z : b = a
      · subst z; exact ⟨_, upd_same⟩
      · exact ⟨o, by rw [upd_ne z]; exact q⟩
  refine ⟨?_, x⟩
  obtain ⟨b, ys, q1, q2, _, _⟩ := r.ow i ds h
  rw [h1] at q1; cases q1
  have hl : i < e.length := (List.getElem?_eq_some_iff.mp h).1
  exact {
    va := fun j d' q => by
      rcases get_set q with ⟨rfl, hl, q⟩ | ⟨hji, q⟩
      · cases q
      · obtain ⟨u, h1, h2⟩ := r.va j d' q
        exact ⟨u, h1, h2.ext x⟩
    ow := fun j ds q => by
      rcases get_set q with ⟨rfl, hl, q⟩ | ⟨hji, q⟩
      · cases q
        exact ⟨a, xs', h1, q2, upd_same, h4.ext x⟩
      · obtain ⟨b, ys, k1, k2, k3, k4⟩ := r.ow j ds q
        exact ⟨b, ys, k1, k2, by rw [upd_ne (fun z => hji (r.inj _ _ _ h1 (by rw [← z]; exact k1)))]; exact k3, k4.ext x⟩
    len := by rw [List.length_set]; exact r.len
    inj := r.inj
    dis := fun j b q => by
      obtain ⟨k1, k2, ds, k3⟩ := r.dis j b q
      by_cases hji : i = j
      · subst hji
        exact ⟨k1, k2, ds', List.getElem?_set_self hl⟩
      · exact ⟨k1, k2, ds, by rw [List.getElem?_set_ne hji]; exact k3⟩
    fw := r.fw
    fl := fun b z => let ⟨o, h⟩ := r.fl b z; x.live b o h
    m := by
      refine M.keep _ _ _ _ r.m (fun b z => upd_ne fun q => ?_) x.tup
      subst q
      exact (r.dis i _ h1).2.1 z }
/-- the state's objects are changed -/
theorem Rl.ofM (r : Rl M K Zf Zw os e w σ H) (x : Ext Zw Zw' H H') (m : M.R w' Zw' H') (f : ∀ a, (Zf a ∨ ∃ i, os i = some a) → ¬ Zw' a) : Rl M K Zf Zw' os e w' σ H' := by
  have p : ∀ {d v}, Rp K (Zt Zf Zw os) H d v → Rp K (Zt Zf Zw' os) H' d v := fun h =>
    (Rp.ext (Zf := fun a => Zf a ∨ ∃ i, os i = some a) x (h.less fun a z => by
      rcases z with (z | z) | z
      · exact .inl z
      · exact .inr (.inr z)
      · exact .inr (.inl z))).less fun a z => by
      rcases z with z | z | z
      · exact .inl (.inl z)
      · exact .inr z
      · exact .inl (.inr z)
  have ps : ∀ {d v}, Rps K (Zt Zf Zw os) H d v → Rps K (Zt Zf Zw' os) H' d v := fun h =>
    (Rps.ext (Zf := fun a => Zf a ∨ ∃ i, os i = some a) x (h.less fun a z => by
      rcases z with (z | z) | z
      · exact .inl z
      · exact .inr (.inr z)
      · exact .inr (.inl z))).less fun a z => by
      rcases z with z | z | z
      · exact .inl (.inl z)
      · exact .inr z
      · exact .inl (.inr z)
  exact {
    va := fun i d h => let ⟨v, h1, h2⟩ := r.va i d h; ⟨v, h1, p h2⟩
    ow := fun i ds h => let ⟨a, xs, h1, h2, h3, h4⟩ := r.ow i ds h; ⟨a, xs, h1, h2, x.keep _ _ h3 (r.dis i a h1).2.1, ps h4⟩
    len := r.len
    inj := r.inj
    dis := fun i a h => let ⟨h1, h2, h3⟩ := r.dis i a h; ⟨h1, f a (.inr ⟨i, h⟩), h3⟩
    fw := fun a z => f a (.inl z)
    fl := fun a z => let ⟨o, h⟩ := r.fl a z; x.live a o h
    m := m }
theorem Ext.ofM (x : Ext Zw Zw' H H') : Ext (Zm Zw os) (Zm Zw' os) H H' :=
  ⟨fun a o h n => x.keep a o h fun z => n (.inl z), x.tup, x.live, fun a z => z.elim (fun z => (x.sub a z).imp .inl id) fun z => .inl (.inr z)⟩
end

/-! ### readings over data -/
abbrev AE (W : Type) := En → W → (PD → En → W → Prop) → Prop
abbrev AT (W : Type) := En → W → (Bool → En → W → Prop) → Prop
abbrev AA (W : Type) := En → W → (List PD → En → W → Prop) → Prop
abbrev AO (W : Type) := En → W → (Option Int → En → W → Prop) → Prop
structure AN (W : Type) where
  nx : En → W → Prop
  rt : PD → W → Prop
  bk : En → W → Prop := fun _ _ => False
  ct : En → W → Prop := fun _ _ => False
abbrev AS (W : Type) := AN W → En → W → Prop
class LE {W : Type} (M : WM W) (K : PySem.W.Frag) (XE : XK) (AX : XA W) (t : TE) (a : outParam (AE W)) : Prop where
  run : ∀ {Zf Zw : AS1} {os : Nat → Option Addr} {e : En} {w : W} {σ : L2.St} {H : Hp} {Q : PD → En → W → Prop} {R : VK}, Rl M K Zf Zw os e w σ H → XOk M K XE AX Zf (Zm Zw os) H → a e w Q →
    (∀ d e' w' v H' Zw' os', Rl M K Zf Zw' os' e' w' σ H' → Ext (Zm Zw os) (Zm Zw' os') H H' → Rp K (Zt Zf Zw' os') H' d v → Q d e' w' → R v H') → t σ H R
class LT {W : Type} (M : WM W) (K : PySem.W.Frag) (XE : XK) (AX : XA W) (t : TT) (a : outParam (AT W)) : Prop where
  run : ∀ {Zf Zw : AS1} {os : Nat → Option Addr} {e : En} {w : W} {σ : L2.St} {H : Hp} {Q : Bool → En → W → Prop} {R : Bool → Hp → Prop}, Rl M K Zf Zw os e w σ H → XOk M K XE AX Zf (Zm Zw os) H → a e w Q →
    (∀ d e' w' H' Zw' os', Rl M K Zf Zw' os' e' w' σ H' → Ext (Zm Zw os) (Zm Zw' os') H H' → Q d e' w' → R d H') → t σ H R
class LA {W : Type} (M : WM W) (K : PySem.W.Frag) (XE : XK) (AX : XA W) (t : TA) (a : outParam (AA W)) : Prop where
  run : ∀ {Zf Zw : AS1} {os : Nat → Option Addr} {e : En} {w : W} {σ : L2.St} {H : Hp} {Q : List PD → En → W → Prop} {R : List V → Hp → Prop}, Rl M K Zf Zw os e w σ H → XOk M K XE AX Zf (Zm Zw os) H → a e w Q →
    (∀ d e' w' v H' Zw' os', Rl M K Zf Zw' os' e' w' σ H' → Ext (Zm Zw os) (Zm Zw' os') H H' → Rps K (Zt Zf Zw' os') H' d v → Q d e' w' → R v H') → t σ H R
class LO {W : Type} (M : WM W) (K : PySem.W.Frag) (XE : XK) (AX : XA W) (t : TO) (a : outParam (AO W)) : Prop where
  run : ∀ {Zf Zw : AS1} {os : Nat → Option Addr} {e : En} {w : W} {σ : L2.St} {H : Hp} {Q : Option Int → En → W → Prop} {R : Option Int → Hp → Prop}, Rl M K Zf Zw os e w σ H → XOk M K XE AX Zf (Zm Zw os) H → a e w Q →
    (∀ d e' w' H' Zw' os', Rl M K Zf Zw' os' e' w' σ H' → Ext (Zm Zw os) (Zm Zw' os') H H' → Q d e' w' → R d H') → t σ H R
/-- what is wished behind a statement -/
structure Ends2 {W : Type} (M : WM W) (K : PySem.W.Frag) (Zf Z : AS1) (H : Hp) (A : AN W) (B : Ends) : Prop where
  nx : ∀ {e' w' σ' H' Zw' os'}, Rl M K Zf Zw' os' e' w' σ' H' → Ext Z (Zm Zw' os') H H' → A.nx e' w' → B.nx σ' H'
  bk : ∀ {e' w' σ' H' Zw' os'}, Rl M K Zf Zw' os' e' w' σ' H' → Ext Z (Zm Zw' os') H H' → A.bk e' w' → B.bk σ' H'
  ct : ∀ {e' w' σ' H' Zw' os'}, Rl M K Zf Zw' os' e' w' σ' H' → Ext Z (Zm Zw' os') H H' → A.ct e' w' → B.ct σ' H'
  rt : ∀ {d w' v H' Zw'}, M.R w' Zw' H' → (∀ a, Zf a → ¬ Zw' a) → Ext Z Zw' H H' → Rp K (Zor Zf Zw') H' d v → A.rt d w' → B.rt v H'
class LS {W : Type} (M : WM W) (K : PySem.W.Frag) (XE : XK) (AX : XA W) (t : TS) (a : outParam (AS W)) : Prop where
  run : ∀ {Zf Zw : AS1} {os : Nat → Option Addr} {e : En} {w : W} {σ : L2.St} {H : Hp} {A : AN W} {B : Ends}, Rl M K Zf Zw os e w σ H → XOk M K XE AX Zf (Zm Zw os) H → a A e w → Ends2 M K Zf (Zm Zw os) H A B → t B σ H
theorem Ends2.ext {W : Type} {M : WM W} {K : PySem.W.Frag} {Zf Z Z' : AS1} {H H' : Hp} {A : AN W} {B : Ends} (x : Ends2 M K Zf Z H A B) (y : Ext Z Z' H H') : Ends2 M K Zf Z' H' A B :=
  ⟨fun r z q => x.nx r (y.trans z) q, fun r z q => x.bk r (y.trans z) q, fun r z q => x.ct r (y.trans z) q, fun m f z r q => x.rt m f (y.trans z) r q⟩

section
variable {W : Type} {M : WM W} {K : PySem.W.Frag} {XE : XK} {AX : XA W} {ta tb tc : TE} {tt tu : TT} {tA : TA} {to to' : TO} {fa fb fc : AE W} {ft fu : AT W} {fA : AA W} {fo fo' : AO W} {i j : Nat}
/-! what a datum must be -/
def kkB (R : Bool → Prop) : PD → Prop := fun d => ∃ b, d = .bl b ∧ R b
def kkI (R : Int → Prop) : PD → Prop := fun d => ∃ b, d = .int b ∧ R b
def kkStr (d : PD) (R : Prop) : Prop := (∃ z, d = .str z) ∧ R
/-! constants, slots -/
def aC (d : PD) : AE W := fun e w Q => Q d e w
theorem le_c {v : V} {d : PD} (h : ∀ {Z : AS1} {H : Hp}, Rp K Z H d v) : LE M K XE AX (tC v) (aC d) := ⟨fun r x q k => k _ _ _ _ _ _ _ r Ext.refl h q⟩
instance : LE M K XE AX (tC .non) (aC .non) := le_c mk_non
instance {b : Bool} : LE M K XE AX (tC (.bl b)) (aC (.bl b)) := le_c mk_bl
instance {b : Int} : LE M K XE AX (tC (.int b)) (aC (.int b)) := le_c mk_int
instance {b : Str} : LE M K XE AX (tC (.str b)) (aC (.str b)) := le_c mk_str
instance {b : String} : LE M K XE AX (tC (.ty b)) (aC (.ty b)) := le_c mk_ty
instance (priority := low) {b : Addr} : LE M K XE AX (tC (.ref b)) (aC (.ref b)) := le_c mk_ref
/-- a tuple of the module's own -/
class KTup (K : PySem.W.Frag) (a : Addr) (ds : outParam (List PD)) : Prop where
  h : ∃ xs, (∀ H, SqT K H a xs) ∧ ∀ Z H, Rps K Z H ds xs
instance {b : Addr} {ds : List PD} [kt : KTup K b ds] : LE M K XE AX (tC (.ref b)) (aC (.tup ds)) := le_c fun {Z H} => by
  obtain ⟨xs, h1, h2⟩ := kt.h
  unfold Rp; exact ⟨b, xs, rfl, .inr h1, h2 Z H⟩
def aVar (i : Nat) : AE W := fun e w Q => match e[i]? with
  | some (some (.va d)) => Q d e w
  | some (some (.ow ds)) => Q (.lst ds) (e.set i (some (.va (.lst ds)))) w
  | _ => False
theorem Ext.off {Zw : AS1} {os : Nat → Option Addr} {H : Hp} {i : Nat} : Ext (Zm Zw os) (Zm Zw (osOff os i)) H H := Ext.refl.less fun a z => Zm_off z
instance : LE M K XE AX (tVar i) (aVar i) := ⟨fun {Zf Zw os e w σ H Q R} r x q k => by
  unfold aVar at q
  split at q
  · rename_i d h
    obtain ⟨v, h1, h2⟩ := r.va i d h
    exact ⟨v, h1, k _ _ _ _ _ _ _ r Ext.refl h2 q⟩
  · rename_i ds h
    obtain ⟨v, h1, h2, h3⟩ := r.freeze h
    exact ⟨v, h1, k _ _ _ _ _ _ _ h3 Ext.off h2 q⟩
  · exact q.elim⟩
/-! operators, by values -/
class LR2 (K : PySem.W.Frag) (r : R2) (a : outParam (PD → PD → (PD → Prop) → Prop)) : Prop where
  run : ∀ {Z : AS1} {H : Hp} {dx dy : PD} {x y : V} {P : PD → Prop} {R : VK}, (∀ a, Z a → ∃ o, H a = some o) → Rp K Z H dx x → Rp K Z H dy y → a dx dy P → (∀ d v H', Gr [] H H' → Rp K Z H' d v → P d → R v H') → r x y H R
class LR1 (K : PySem.W.Frag) (r : V → Hp → VK → Prop) (a : outParam (PD → (PD → Prop) → Prop)) : Prop where
  run : ∀ {Z : AS1} {H : Hp} {dx : PD} {x : V} {P : PD → Prop} {R : VK}, (∀ a, Z a → ∃ o, H a = some o) → Rp K Z H dx x → a dx P → (∀ d v H', Gr [] H H' → Rp K Z H' d v → P d → R v H') → r x H R
class LRn (K : PySem.W.Frag) (r : List V → Hp → VK → Prop) (a : outParam (List PD → (PD → Prop) → Prop)) : Prop where
  run : ∀ {Z : AS1} {H : Hp} {dx : List PD} {x : List V} {P : PD → Prop} {R : VK}, (∀ a, Z a → ∃ o, H a = some o) → Rps K Z H dx x → a dx P → (∀ d v H', Gr [] H H' → Rp K Z H' d v → P d → R v H') → r x H R
class LRm (K : PySem.W.Frag) (r : V → List V → Hp → VK → Prop) (a : outParam (PD → List PD → (PD → Prop) → Prop)) : Prop where
  run : ∀ {Z : AS1} {H : Hp} {dx : PD} {dy : List PD} {x : V} {y : List V} {P : PD → Prop} {R : VK}, (∀ a, Z a → ∃ o, H a = some o) → Rp K Z H dx x → Rps K Z H dy y → a dx dy P → (∀ d v H', Gr [] H H' → Rp K Z H' d v → P d → R v H') → r x y H R
class LRs (K : PySem.W.Frag) (r : V → Option Int → Option Int → Hp → VK → Prop) (a : outParam (PD → Option Int → Option Int → (PD → Prop) → Prop)) : Prop where
  run : ∀ {Z : AS1} {H : Hp} {dx : PD} {lo hi : Option Int} {x : V} {P : PD → Prop} {R : VK}, (∀ a, Z a → ∃ o, H a = some o) → Rp K Z H dx x → a dx lo hi P → (∀ d v H', Gr [] H H' → Rp K Z H' d v → P d → R v H') → r x lo hi H R
theorem Rl.lv {Zf Zw : AS1} {os : Nat → Option Addr} {e : En} {w : W} {σ : L2.St} {H : Hp} (r : Rl M K Zf Zw os e w σ H) : ∀ a, Zt Zf Zw os a → ∃ o, H a = some o := fun _ z => r.live z
def aOp (f : PD → PD → (PD → Prop) → Prop) (fa fb : AE W) : AE W := fun e w Q => fa e w fun d e w => fb e w fun d' e w => f d d' fun z => Q z e w
instance {r : R2} {f : PD → PD → (PD → Prop) → Prop} [lr : LR2 K r f] [la : LE M K XE AX ta fa] [lb : LE M K XE AX tb fb] : LE M K XE AX (tOp r ta tb) (aOp f fa fb) := ⟨fun r0 x q k =>
  la.run r0 x q fun d1 e1 w1 v1 H1 Zw1 os1 r1 x1 p1 q1 => lb.run r1 (x.ext x1) q1 fun d2 e2 w2 v2 H2 Zw2 os2 r2 x2 p2 q2 =>
    lr.run r2.lv (Rp.ext x2 p1) p2 q2 fun d v H3 g p q => k _ _ _ _ _ _ _ (r2.gr g) (x1.trans (x2.trans (Gr.ext g))) p q⟩
def aUn (f : PD → (PD → Prop) → Prop) (fa : AE W) : AE W := fun e w Q => fa e w fun d e w => f d fun z => Q z e w
instance {r : V → Hp → VK → Prop} {f : PD → (PD → Prop) → Prop} [lr : LR1 K r f] [la : LE M K XE AX ta fa] : LE M K XE AX (tUn r ta) (aUn f fa) := ⟨fun r0 x q k =>
  la.run r0 x q fun d1 e1 w1 v1 H1 Zw1 os1 r1 x1 p1 q1 => lr.run r1.lv p1 q1 fun d v H3 g p q => k _ _ _ _ _ _ _ (r1.gr g) (x1.trans (Gr.ext g)) p q⟩
def aNil : AA W := fun e w Q => Q [] e w
def aCons (fa : AE W) (fA : AA W) : AA W := fun e w Q => fa e w fun d e w => fA e w fun ds e w => Q (d :: ds) e w
instance : LA M K XE AX tNil aNil := ⟨fun r0 x q k => k _ _ _ _ _ _ _ r0 Ext.refl rps_nil q⟩
instance [la : LE M K XE AX ta fa] [lb : LA M K XE AX tA fA] : LA M K XE AX (tCons ta tA) (aCons fa fA) := ⟨fun r0 x q k =>
  la.run r0 x q fun d1 e1 w1 v1 H1 Zw1 os1 r1 x1 p1 q1 => lb.run r1 (x.ext x1) q1 fun d2 e2 w2 v2 H2 Zw2 os2 r2 x2 p2 q2 => k _ _ _ _ _ _ _ r2 (x1.trans x2) (rps_cons (Rp.ext x2 p1) p2) q2⟩
def aCB (f : List PD → (PD → Prop) → Prop) (fA : AA W) : AE W := fun e w Q => fA e w fun ds e w => f ds fun z => Q z e w
instance {r : List V → Hp → VK → Prop} {f : List PD → (PD → Prop) → Prop} [lr : LRn K r f] [la : LA M K XE AX tA fA] : LE M K XE AX (tCB r tA) (aCB f fA) := ⟨fun r0 x q k =>
  la.run r0 x q fun d1 e1 w1 v1 H1 Zw1 os1 r1 x1 p1 q1 => lr.run r1.lv p1 q1 fun d v H3 g p q => k _ _ _ _ _ _ _ (r1.gr g) (x1.trans (Gr.ext g)) p q⟩
def aTup (fA : AA W) : AE W := fun e w Q => fA e w fun ds e w => SzC (ds.length ≤ 1000000) ∧ Q (.tup ds) e w
theorem new_not {Z : AS1} {H : Hp} {p : Addr} (h : ∀ a, Z a → ∃ o, H a = some o) (hp : H p = none) : ¬ Z p := fun z => by obtain ⟨o, q⟩ := h p z; rw [hp] at q; cases q
instance [la : LA M K XE AX tA fA] : LE M K XE AX (tTup tA) (aTup fA) := ⟨fun r0 x q k =>
  la.run r0 x q fun d1 e1 w1 v1 H1 Zw1 os1 r1 x1 p1 q1 => ⟨sz_of (by have := q1.1; unfold SzC at this; rw [rps_len p1]; omega), fun p hp =>
    k _ _ _ _ _ _ _ (r1.gr (Gr.new hp)) (x1.trans (Gr.ext (Gr.new hp))) (mk_tup upd_same (p1.gr (Gr.new hp))) q1.2⟩⟩
def aLst (fA : AA W) : AE W := fun e w Q => fA e w fun ds e w => SzC (ds.length ≤ 1000000) ∧ Q (.lst ds) e w
instance [la : LA M K XE AX tA fA] : LE M K XE AX (tLst tA) (aLst fA) := ⟨fun r0 x q k =>
  la.run r0 x q fun d1 e1 w1 v1 H1 Zw1 os1 r1 x1 p1 q1 => ⟨sz_of (by have := q1.1; unfold SzC at this; rw [rps_len p1]; omega), fun p hp =>
    k _ _ _ _ _ _ _ (r1.gr (Gr.new hp)) (x1.trans (Gr.ext (Gr.new hp))) (mk_lst upd_same (r1.new hp) (p1.gr (Gr.new hp))) q1.2⟩⟩
/-! tests -/
def aTest (fa : AE W) : AT W := fun e w Q => fa e w fun d e w => kkB (fun b => Q b e w) d
instance [la : LE M K XE AX ta fa] : LT M K XE AX (tTest ta) (aTest fa) := ⟨fun r0 x q k =>
  la.run r0 x q fun d1 e1 w1 v1 H1 Zw1 os1 r1 x1 p1 q1 => by
    obtain ⟨b, rfl, q1⟩ := q1
    exact ⟨b, rp_bl p1, k _ _ _ _ _ _ r1 x1 q1⟩⟩
instance [la : LE M K XE AX ta fa] : LT M K XE AX (tB ta) (aTest fa) := ⟨fun r0 x q k =>
  la.run r0 x q fun d1 e1 w1 v1 H1 Zw1 os1 r1 x1 p1 q1 => by
    obtain ⟨b, rfl, q1⟩ := q1
    exact ⟨b, rp_bl p1, k _ _ _ _ _ _ r1 x1 q1⟩⟩
def aIf (ft : AT W) (fa fb : AE W) : AE W := fun e w Q => ft e w fun b e w => if b = true then fa e w Q else fb e w Q
instance [lt : LT M K XE AX tt ft] [la : LE M K XE AX ta fa] [lb : LE M K XE AX tb fb] : LE M K XE AX (tIf tt ta tb) (aIf ft fa fb) := ⟨fun r0 x q k =>
  lt.run r0 x q fun b e1 w1 H1 Zw1 os1 r1 x1 q1 => by
    cases b with
    | true => exact (if_pos rfl).mpr (la.run r1 (x.ext x1) ((if_pos rfl).mp q1) fun d2 e2 w2 v2 H2 Zw2 os2 r2 x2 p2 q2 => k _ _ _ _ _ _ _ r2 (x1.trans x2) p2 q2)
    | false => exact (if_neg Bool.false_ne_true).mpr (lb.run r1 (x.ext x1) ((if_neg Bool.false_ne_true).mp q1) fun d2 e2 w2 v2 H2 Zw2 os2 r2 x2 p2 q2 => k _ _ _ _ _ _ _ r2 (x1.trans x2) p2 q2)⟩
def aAnd (ft fu : AT W) : AT W := fun e w Q => ft e w fun b e w => if b = true then fu e w Q else Q false e w
instance [lt : LT M K XE AX tt ft] [lu : LT M K XE AX tu fu] : LT M K XE AX (tAnd tt tu) (aAnd ft fu) := ⟨fun r0 x q k =>
  lt.run r0 x q fun b e1 w1 H1 Zw1 os1 r1 x1 q1 => by
    cases b with
    | true => exact (if_pos rfl).mpr (lu.run r1 (x.ext x1) ((if_pos rfl).mp q1) fun d2 e2 w2 H2 Zw2 os2 r2 x2 q2 => k _ _ _ _ _ _ r2 (x1.trans x2) q2)
    | false => exact (if_neg Bool.false_ne_true).mpr (k _ _ _ _ _ _ r1 x1 ((if_neg Bool.false_ne_true).mp q1))⟩
def aOr (ft fu : AT W) : AT W := fun e w Q => ft e w fun b e w => if b = true then Q true e w else fu e w Q
instance [lt : LT M K XE AX tt ft] [lu : LT M K XE AX tu fu] : LT M K XE AX (tOr tt tu) (aOr ft fu) := ⟨fun r0 x q k =>
  lt.run r0 x q fun b e1 w1 H1 Zw1 os1 r1 x1 q1 => by
    cases b with
    | true => exact (if_pos rfl).mpr (k _ _ _ _ _ _ r1 x1 ((if_pos rfl).mp q1))
    | false => exact (if_neg Bool.false_ne_true).mpr (lu.run r1 (x.ext x1) ((if_neg Bool.false_ne_true).mp q1) fun d2 e2 w2 H2 Zw2 os2 r2 x2 q2 => k _ _ _ _ _ _ r2 (x1.trans x2) q2)⟩
def aNot (ft : AT W) : AT W := fun e w Q => ft e w fun b e w => Q (!b) e w
instance [lt : LT M K XE AX tt ft] : LT M K XE AX (tNot tt) (aNot ft) := ⟨fun r0 x q k => lt.run r0 x q fun b e1 w1 H1 Zw1 os1 r1 x1 q1 => k _ _ _ _ _ _ r1 x1 q1⟩
def aAndV (fa fb : AE W) : AE W := fun e w Q => fa e w fun d e w => kkB (fun b => if b = true then fb e w Q else Q (.bl false) e w) d
instance [la : LE M K XE AX ta fa] [lb : LE M K XE AX tb fb] : LE M K XE AX (tAndV ta tb) (aAndV fa fb) := ⟨fun r0 x q k =>
  la.run r0 x q fun d1 e1 w1 v1 H1 Zw1 os1 r1 x1 p1 q1 => by
    obtain ⟨b, rfl, q1⟩ := q1
    refine ⟨b, rp_bl p1, ?_⟩
    cases b with
    | true => exact (if_pos rfl).mpr (lb.run r1 (x.ext x1) ((if_pos rfl).mp q1) fun d2 e2 w2 v2 H2 Zw2 os2 r2 x2 p2 q2 => k _ _ _ _ _ _ _ r2 (x1.trans x2) p2 q2)
    | false => exact (if_neg Bool.false_ne_true).mpr (k _ _ _ _ _ _ _ r1 x1 mk_bl ((if_neg Bool.false_ne_true).mp q1))⟩
def aOrV (fa fb : AE W) : AE W := fun e w Q => fa e w fun d e w => kkB (fun b => if b = true then Q (.bl true) e w else fb e w Q) d
instance [la : LE M K XE AX ta fa] [lb : LE M K XE AX tb fb] : LE M K XE AX (tOrV ta tb) (aOrV fa fb) := ⟨fun r0 x q k =>
  la.run r0 x q fun d1 e1 w1 v1 H1 Zw1 os1 r1 x1 p1 q1 => by
    obtain ⟨b, rfl, q1⟩ := q1
    refine ⟨b, rp_bl p1, ?_⟩
    cases b with
    | true => exact (if_pos rfl).mpr (k _ _ _ _ _ _ _ r1 x1 mk_bl ((if_pos rfl).mp q1))
    | false => exact (if_neg Bool.false_ne_true).mpr (lb.run r1 (x.ext x1) ((if_neg Bool.false_ne_true).mp q1) fun d2 e2 w2 v2 H2 Zw2 os2 r2 x2 p2 q2 => k _ _ _ _ _ _ _ r2 (x1.trans x2) p2 q2)⟩
def aNotV (fa : AE W) : AE W := fun e w Q => fa e w fun d e w => kkB (fun b => Q (.bl (!b)) e w) d
instance [la : LE M K XE AX ta fa] : LE M K XE AX (tNotV ta) (aNotV fa) := ⟨fun r0 x q k =>
  la.run r0 x q fun d1 e1 w1 v1 H1 Zw1 os1 r1 x1 p1 q1 => by
    obtain ⟨b, rfl, q1⟩ := q1
    exact ⟨b, rp_bl p1, k _ _ _ _ _ _ _ r1 x1 mk_bl q1⟩⟩
def aChain (f g : PD → PD → (PD → Prop) → Prop) (fa fb fc : AE W) : AE W := fun e w Q => fa e w fun d e w => fb e w fun d' e w => f d d' (kkB fun b => if b = true then fc e w fun d'' e w => g d' d'' fun z => Q z e w else Q (.bl false) e w)
instance {r r' : R2} {f g : PD → PD → (PD → Prop) → Prop} [lr : LR2 K r f] [lr' : LR2 K r' g] [la : LE M K XE AX ta fa] [lb : LE M K XE AX tb fb] [lc : LE M K XE AX tc fc] : LE M K XE AX (tChain r r' ta tb tc) (aChain f g fa fb fc) := ⟨fun r0 x q k =>
  la.run r0 x q fun d1 e1 w1 v1 H1 Zw1 os1 r1 x1 p1 q1 => lb.run r1 (x.ext x1) q1 fun d2 e2 w2 v2 H2 Zw2 os2 r2 x2 p2 q2 =>
    lr.run r2.lv (Rp.ext x2 p1) p2 q2 fun d v H3 gg p q => by
      obtain ⟨b, rfl, q⟩ := q
      refine ⟨b, rp_bl p, ?_⟩
      have r3 := r2.gr gg
      have x3 := x1.trans (x2.trans (Gr.ext gg))
      cases b with
      | true => exact (if_pos rfl).mpr (lc.run r3 (x.ext x3) ((if_pos rfl).mp q) fun d4 e4 w4 v4 H4 Zw4 os4 r4 x4 p4 q4 => lr'.run r4.lv (Rp.ext x4 (p2.gr gg)) p4 q4 fun d v H5 g5 p q => k _ _ _ _ _ _ _ (r4.gr g5) (x3.trans (x4.trans (Gr.ext g5))) p q)
      | false => exact (if_neg Bool.false_ne_true).mpr (k _ _ _ _ _ _ _ r3 x3 mk_bl ((if_neg Bool.false_ne_true).mp q))⟩
/-- is it None -/
def isN : PD → Bool
  | .non => true
  | _ => false
theorem isN_dec {Z : AS1} {H : Hp} {d : PD} {v : V} (h : Rp K Z H d v) : decide (v = .non) = isN d := by
  cases d with
  | non => rw [rp_non h]; rfl
  | bl b => rw [rp_bl h]; rfl
  | int b => rw [rp_int h]; rfl
  | str b => rw [rp_str h]; rfl
  | ref b => rw [rp_ref h]; rfl
  | ty b => rw [rp_ty h]; rfl
  | tup ds => obtain ⟨a, xs, rfl, _⟩ := rp_tup h; rfl
  | lst ds => obtain ⟨a, xs, rfl, _⟩ := rp_lst h; rfl
  | ro ds => obtain ⟨a, xs, rfl, _⟩ := rp_ro h; rfl
def aIsN (fa : AE W) : AE W := fun e w Q => fa e w fun d e w => Q (.bl (isN d)) e w
def aNotN (fa : AE W) : AE W := fun e w Q => fa e w fun d e w => Q (.bl (!isN d)) e w
instance [la : LE M K XE AX ta fa] : LE M K XE AX (tIsN ta) (aIsN fa) := ⟨fun r0 x q k =>
  la.run r0 x q fun d1 e1 w1 v1 H1 Zw1 os1 r1 x1 p1 q1 => by
    rw [isN_dec p1]; exact k _ _ _ _ _ _ _ r1 x1 mk_bl q1⟩
instance [la : LE M K XE AX ta fa] : LE M K XE AX (tNotN ta) (aNotN fa) := ⟨fun r0 x q k =>
  la.run r0 x q fun d1 e1 w1 v1 H1 Zw1 os1 r1 x1 p1 q1 => by
    rw [isN_dec p1]; exact k _ _ _ _ _ _ _ r1 x1 mk_bl q1⟩
/-! methods of texts, slices -/
def aM1 (f : PD → List PD → (PD → Prop) → Prop) (fa fb : AE W) : AE W := fun e w Q => fa e w fun d e w => kkStr d (fb e w fun d' e w => f d [d'] fun z => Q z e w)
instance {r : V → List V → Hp → VK → Prop} {f : PD → List PD → (PD → Prop) → Prop} [lr : LRm K r f] [la : LE M K XE AX ta fa] [lb : LE M K XE AX tb fb] : LE M K XE AX (tM1 r ta tb) (aM1 f fa fb) := ⟨fun r0 x q k =>
  la.run r0 x q fun d1 e1 w1 v1 H1 Zw1 os1 r1 x1 p1 q1 => ⟨by obtain ⟨⟨z, rfl⟩, _⟩ := q1; exact ⟨z, rp_str p1⟩, lb.run r1 (x.ext x1) q1.2 fun d2 e2 w2 v2 H2 Zw2 os2 r2 x2 p2 q2 =>
    lr.run r2.lv (Rp.ext x2 p1) (rps_cons p2 rps_nil) q2 fun d v H3 g p q => k _ _ _ _ _ _ _ (r2.gr g) (x1.trans (x2.trans (Gr.ext g))) p q⟩⟩
def aNoPart : AO W := fun e w Q => Q none e w
instance : LO M K XE AX tNoPart aNoPart := ⟨fun r0 x q k => k _ _ _ _ _ _ r0 Ext.refl q⟩
def aPart (fa : AE W) : AO W := fun e w Q => fa e w fun d e w => kkI (fun i => Q (some i) e w) d
instance [la : LE M K XE AX ta fa] : LO M K XE AX (tPart ta) (aPart fa) := ⟨fun r0 x q k =>
  la.run r0 x q fun d1 e1 w1 v1 H1 Zw1 os1 r1 x1 p1 q1 => by
    obtain ⟨i, rfl, q1⟩ := q1
    exact ⟨i, rp_int p1, k _ _ _ _ _ _ r1 x1 q1⟩⟩
def aSl (f : PD → Option Int → Option Int → (PD → Prop) → Prop) (fa : AE W) (fo fo' : AO W) : AE W := fun e w Q => fa e w fun d e w => fo e w fun lo e w => fo' e w fun hi e w => f d lo hi fun z => Q z e w
instance {r : V → Option Int → Option Int → Hp → VK → Prop} {f : PD → Option Int → Option Int → (PD → Prop) → Prop} [lr : LRs K r f] [la : LE M K XE AX ta fa] [lo : LO M K XE AX to fo] [lo' : LO M K XE AX to' fo'] : LE M K XE AX (tSl r ta to to') (aSl f fa fo fo') := ⟨fun r0 x q k =>
  la.run r0 x q fun d1 e1 w1 v1 H1 Zw1 os1 r1 x1 p1 q1 => lo.run r1 (x.ext x1) q1 fun l e2 w2 H2 Zw2 os2 r2 x2 q2 => lo'.run r2 (x.ext (x1.trans x2)) q2 fun h e3 w3 H3 Zw3 os3 r3 x3 q3 =>
    lr.run r3.lv (Rp.ext (x2.trans x3) p1) q3 fun d v H4 g p q => k _ _ _ _ _ _ _ (r3.gr g) (x1.trans (x2.trans (x3.trans (Gr.ext g)))) p q⟩
end
end RS
set_option Elab.async false
set_option linter.all false
set_option maxRecDepth 100000
set_option maxHeartbeats 4000000
/-! Ds: statements, loops, comprehensions, calls over data. -/
namespace RS
open PySem L2
section
variable {W : Type} {M : WM W} {K : PySem.W.Frag} {XE : XK} {AX : XA W} {ta tb tc : TE} {tt tu : TT} {tA : TA} {to to' : TO} {fa fb fc : AE W} {ft fu : AT W} {fA : AA W} {fo fo' : AO W} {i j l : Nat} {t u : TS} {fs fu' : AS W}
theorem Zm_no {Zw : AS1} {os : Nat → Option Addr} {a : Addr} (z : Zw a) : Zm Zw os a := .inl z
theorem Rl.dropRp {Zf Zw : AS1} {os : Nat → Option Addr} {H : Hp} {d : PD} {v : V} (h : Rp K (Zt Zf Zw os) H d v) : Rp K (Zor Zf Zw) H d v := h.less fun a z => z.imp id .inl
theorem Ext.drop {Zw Z : AS1} {os : Nat → Option Addr} {H H' : Hp} (x : Ext Z (Zm Zw os) H H') : Ext Z Zw H H' := x.less fun a z => .inl z
def aNext : AS W := fun A e w => A.nx e w
instance : LS M K XE AX tNext aNext := ⟨fun r x q k => k.nx r Ext.refl q⟩
def aBreak : AS W := fun A e w => A.bk e w
instance : LS M K XE AX tBreak aBreak := ⟨fun r x q k => k.bk r Ext.refl q⟩
def aCont : AS W := fun A e w => A.ct e w
instance : LS M K XE AX tCont aCont := ⟨fun r x q k => k.ct r Ext.refl q⟩
def aSeq (f g : AS W) : AS W := fun A e w => f { A with nx := g A } e w
instance [ls : LS M K XE AX t fs] [lu : LS M K XE AX u fu'] : LS M K XE AX (tSeq t u) (aSeq fs fu') := ⟨fun r x q k =>
  ls.run r x q ⟨fun r1 x1 q1 => lu.run r1 (x.ext x1) q1 (k.ext x1), k.bk, k.ct, k.rt⟩⟩
def aCut (f g : AS W) : AS W := fun A e w => ∃ Mid : En → W → Prop, f { A with nx := Mid } e w ∧ ∀ e' w', Mid e' w' → g A e' w'
instance [ls : LS M K XE AX t fs] [lu : LS M K XE AX u fu'] : LS M K XE AX (Evl.tCut t u) (aCut fs fu') := ⟨fun {Zf Zw os e w σ H A B} r x q k => by
  obtain ⟨Mid, q1, q2⟩ := q
  refine ⟨fun σ' H' => ∃ e' w' Zw' os', Rl M K Zf Zw' os' e' w' σ' H' ∧ Ext (Zm Zw os) (Zm Zw' os') H H' ∧ Mid e' w', ls.run r x q1 ⟨fun r1 x1 q1 => ⟨_, _, _, _, r1, x1, q1⟩, k.bk, k.ct, k.rt⟩, ?_⟩
  rintro σ' H' ⟨e', w', Zw', os', r1, x1, q1⟩
  exact lu.run r1 (x.ext x1) (q2 _ _ q1) (k.ext x1)⟩
def aDrop (fa : AE W) : AS W := fun A e w => fa e w fun _ e w => A.nx e w
instance (priority := low) [la : LE M K XE AX ta fa] : LS M K XE AX (tDrop ta) (aDrop fa) := ⟨fun r x q k => la.run r x q fun d e1 w1 v H1 Zw1 os1 r1 x1 p1 q1 => k.nx r1 x1 q1⟩
def aRet (fa : AE W) : AS W := fun A e w => fa e w fun d _ w => A.rt d w
theorem Rl.out {Zf Zw : AS1} {os : Nat → Option Addr} {e : En} {w : W} {σ : L2.St} {H : Hp} (r : Rl M K Zf Zw os e w σ H) : ∀ a, Zf a → ¬ Zw a := r.fw
instance [la : LE M K XE AX ta fa] : LS M K XE AX (tRet ta) (aRet fa) := ⟨fun r x q k => la.run r x q fun d e1 w1 v H1 Zw1 os1 r1 x1 p1 q1 => k.rt r1.m r1.fw x1.drop (Rl.dropRp p1) q1⟩
def aRetN : AS W := fun A e w => A.rt .non w
instance : LS M K XE AX tRetN aRetN := ⟨fun r x q k => k.rt r.m r.fw Ext.refl.drop mk_non q⟩
def aIfS (ft : AT W) (f g : AS W) : AS W := fun A e w => ft e w fun b e w => if b = true then f A e w else g A e w
instance [lt : LT M K XE AX tt ft] [ls : LS M K XE AX t fs] [lu : LS M K XE AX u fu'] : LS M K XE AX (tIfS tt t u) (aIfS ft fs fu') := ⟨fun r x q k =>
  lt.run r x q fun b e1 w1 H1 Zw1 os1 r1 x1 q1 => by
    cases b with
    | true => exact (if_pos rfl).mpr (ls.run r1 (x.ext x1) ((if_pos rfl).mp q1) (k.ext x1))
    | false => exact (if_neg Bool.false_ne_true).mpr (lu.run r1 (x.ext x1) ((if_neg Bool.false_ne_true).mp q1) (k.ext x1))⟩
/-! targets -/
class LG (M : WM W) (K : PySem.W.Frag) (g : TG) (ix : outParam (List Nat)) (a : outParam (PD → En → (En → Prop) → Prop)) : Prop where
  run : ∀ {Zf Zw : AS1} {os : Nat → Option Addr} {e : En} {w : W} {σ : L2.St} {H : Hp} {d : PD} {v : V} {Q : En → Prop} {R : L2.St → Hp → Prop}, Rl M K Zf Zw os e w σ H → Rp K (Zt Zf Zw os) H d v → a d e Q →
    (∀ e' σ' os', Rl M K Zf Zw os' e' w σ' H → Ext (Zm Zw os) (Zm Zw os') H H → σ'.length = σ.length → (∀ j, j ∉ ix → σ'[j]? = σ[j]?) → Q e' → R σ' H) → g v σ H R
class LGs (M : WM W) (K : PySem.W.Frag) (g : TGs) (ix : outParam (List Nat)) (a : outParam (List PD → En → (En → Prop) → Prop)) : Prop where
  run : ∀ {Zf Zw : AS1} {os : Nat → Option Addr} {e : En} {w : W} {σ : L2.St} {H : Hp} {d : List PD} {v : List V} {Q : En → Prop} {R : L2.St → Hp → Prop}, Rl M K Zf Zw os e w σ H → Rps K (Zt Zf Zw os) H d v → a d e Q →
    (∀ e' σ' os', Rl M K Zf Zw os' e' w σ' H → Ext (Zm Zw os) (Zm Zw os') H H → σ'.length = σ.length → (∀ j, j ∉ ix → σ'[j]? = σ[j]?) → Q e' → R σ' H) → g v σ H R
def agName (i : Nat) : PD → En → (En → Prop) → Prop := fun d e Q => Q (e.set i (some (.va d)))
instance : LG M K (gName i) [i] (agName i) := ⟨fun {Zf Zw os e w σ H d v Q R} r p q k => by
  refine k _ _ _ (r.setVa i p) Ext.off (List.length_set ..) (fun j hj => ?_) q
  exact List.getElem?_set_ne (fun z => hj (by rw [z]; exact List.mem_singleton.mpr rfl))⟩
def agNil : List PD → En → (En → Prop) → Prop := fun ds e Q => ds = [] ∧ Q e
instance : LGs M K gNil [] agNil := ⟨fun r p q k => by
  obtain ⟨rfl, q⟩ := q
  exact ⟨rps_nil' p, k _ _ _ r Ext.refl rfl (fun _ _ => rfl) q⟩⟩
def agCons (f : PD → En → (En → Prop) → Prop) (g : List PD → En → (En → Prop) → Prop) : List PD → En → (En → Prop) → Prop := fun ds e Q => ∃ d r, ds = d :: r ∧ f d e fun e => g r e Q
instance {g : TG} {gs : TGs} {ix iy : List Nat} {f : PD → En → (En → Prop) → Prop} {f' : List PD → En → (En → Prop) → Prop} [lg : LG M K g ix f] [lgs : LGs M K gs iy f'] : LGs M K (gCons g gs) (ix ++ iy) (agCons f f') := ⟨fun r p q k => by
  obtain ⟨d, rest, rfl, q⟩ := q
  obtain ⟨x, vs, rfl, p1, p2⟩ := rps_cons' p
  refine ⟨x, vs, rfl, lg.run r p1 q fun e1 σ1 os1 r1 x1 l1 n1 q1 => lgs.run r1 (Rps.ext x1 p2) q1 fun e2 σ2 os2 r2 x2 l2 n2 q2 => k _ _ _ r2 (x1.trans x2) (l2.trans l1) (fun j hj => ?_) q2⟩
  rw [n2 j (fun z => hj (List.mem_append_right _ z)), n1 j (fun z => hj (List.mem_append_left _ z))]⟩
def agTup (n : Nat) (g : List PD → En → (En → Prop) → Prop) : PD → En → (En → Prop) → Prop := fun d e Q => ∃ ds, d = .tup ds ∧ ds.length = n ∧ g ds e Q
instance {gs : TGs} {ix : List Nat} {n : Nat} {f : List PD → En → (En → Prop) → Prop} [lgs : LGs M K gs ix f] : LG M K (gTup K n gs) ix (agTup n f) := ⟨fun r p q k => by
  obtain ⟨ds, rfl, hn, q⟩ := q
  obtain ⟨a, xs, rfl, h1, h2⟩ := rp_tup p
  exact ⟨a, xs, rfl, h1.sqT, (rps_len h2).trans hn, lgs.run r h2 q k⟩⟩
/-! assignments -/
def aAsg (fa : AE W) (g : PD → En → (En → Prop) → Prop) : AS W := fun A e w => fa e w fun d e w => g d e fun e => A.nx e w
instance (priority := low) {g : TG} {ix : List Nat} {f : PD → En → (En → Prop) → Prop} [la : LE M K XE AX ta fa] [lg : LG M K g ix f] : LS M K XE AX (tAsg ta g) (aAsg fa f) := ⟨fun r x q k =>
  la.run r x q fun d e1 w1 v H1 Zw1 os1 r1 x1 p1 q1 => lg.run r1 p1 q1 fun e2 σ2 os2 r2 x2 _ _ q2 => k.nx r2 (x1.trans x2) q2⟩
/-- a new list goes to a slot -/
def aNew (fA : AA W) (i : Nat) : AS W := fun A e w => fA e w fun ds e w => SzC (ds.length ≤ 1000000 ∧ i < e.length) ∧ A.nx (e.set i (some (.ow ds))) w
theorem Ext.on {Zw : AS1} {os : Nat → Option Addr} {H H' : Hp} {p : Addr} {i : Nat} (g : Gr [] H H') (hp : H p = none) : Ext (Zm Zw os) (Zm Zw (osOn os i p)) H H' :=
  ⟨fun a o h _ => g.get0 h, g.tup, g.live, fun a z => by
    rcases z with z | ⟨j, z⟩
    · exact .inl (.inl z)
    · unfold osOn at z
      split at z
      · cases z; exact .inr hp
      · exact .inl (.inr ⟨j, z⟩)⟩
instance (priority := high) [la : LA M K XE AX tA fA] : LS M K XE AX (tAsg (tLst tA) (gName i)) (aNew fA i) := ⟨fun r x q k =>
  la.run r x q fun d e1 w1 v H1 Zw1 os1 r1 x1 p1 q1 => ⟨sz_of (by have := q1.1; unfold SzC at this; rw [rps_len p1]; omega), fun p hp =>
    k.nx (r1.setOw i (Gr.new hp) hp upd_same p1 (by have := q1.1; unfold SzC at this; exact this.2)) (x1.trans (Ext.on (Gr.new hp) hp)) q1.2⟩⟩
def aPar (i j : Nat) (fA : AA W) : AS W := fun A e w => fA e w fun ds e w => ∃ d d', ds = [d, d'] ∧ A.nx ((e.set i (some (.va d))).set j (some (.va d'))) w
instance (priority := low) [la : LA M K XE AX tA fA] : LS M K XE AX (tPar i j tA) (aPar i j fA) := ⟨fun r x q k =>
  la.run r x q fun d e1 w1 v H1 Zw1 os1 r1 x1 p1 q1 => by
    obtain ⟨d, d', rfl, q1⟩ := q1
    obtain ⟨a, as, rfl, pa, p1⟩ := rps_cons' p1
    obtain ⟨b, bs, rfl, pb, p1⟩ := rps_cons' p1
    obtain rfl := rps_nil' p1
    have r2 := r1.setVa i pa
    have r3 := r2.setVa j (Rp.ext Ext.off pb)
    exact ⟨a, b, rfl, k.nx r3 (x1.trans (Ext.off.trans Ext.off)) q1⟩⟩
def aPar3 (i j l : Nat) (fA : AA W) : AS W := fun A e w => fA e w fun ds e w => ∃ d d' d'', ds = [d, d', d''] ∧ A.nx (((e.set i (some (.va d))).set j (some (.va d'))).set l (some (.va d''))) w
instance (priority := low) [la : LA M K XE AX tA fA] : LS M K XE AX (tPar3 i j l tA) (aPar3 i j l fA) := ⟨fun r x q k =>
  la.run r x q fun d e1 w1 v H1 Zw1 os1 r1 x1 p1 q1 => by
    obtain ⟨d, d', d'', rfl, q1⟩ := q1
    obtain ⟨a, as, rfl, pa, p1⟩ := rps_cons' p1
    obtain ⟨b, bs, rfl, pb, p1⟩ := rps_cons' p1
    obtain ⟨c, cs, rfl, pc, p1⟩ := rps_cons' p1
    obtain rfl := rps_nil' p1
    have r2 := r1.setVa i pa
    have r3 := r2.setVa j (Rp.ext Ext.off pb)
    have r4 := r3.setVa l (Rp.ext Ext.off (Rp.ext Ext.off pc))
    exact ⟨a, b, c, rfl, k.nx r4 (x1.trans (Ext.off.trans (Ext.off.trans Ext.off))) q1⟩⟩
/-- (.., []): the second a new list -/
def aParN (i j : Nat) (fa : AE W) : AS W := fun A e w => fa e w fun d e w => SzC (j < e.length) ∧ A.nx ((e.set i (some (.va d))).set j (some (.ow []))) w
instance (priority := high) [la : LE M K XE AX ta fa] : LS M K XE AX (tPar i j (tCons ta (tCons (tLst tNil) tNil))) (aParN i j fa) := ⟨fun r x q k =>
  la.run r x q fun d e1 w1 v H1 Zw1 os1 r1 x1 p1 q1 => ⟨Nat.zero_le _, fun p hp => ⟨v, .ref p, rfl, by
    have r2 := (r1.setVa i p1).setOw j (ds := []) (Gr.new hp (o := .lst [])) hp upd_same rps_nil (by rw [List.length_set]; exact q1.1)
    exact k.nx r2 (x1.trans (Ext.off.trans (Ext.on (Gr.new hp) hp))) q1.2⟩⟩⟩
/-- ([], ..): the first a new list -/
def aParM (i j : Nat) (fa : AE W) : AS W := fun A e w => fa e w fun d e w => SzC (i < e.length) ∧ A.nx ((e.set i (some (.ow []))).set j (some (.va d))) w
theorem upd_get {H : Hp} {p a : Addr} {o u : HO} (h : H a = some o) (hp : H p = none) : upd H p u a = some o := by rw [upd_ne (ne_of_none h hp)]; exact h
/-- a new list that is held aside -/
theorem Rl.aside {Zf Zw : AS1} {os : Nat → Option Addr} {e : En} {w : W} {σ : L2.St} {H H' : Hp} {p : Addr} {o : HO} (r : Rl M K Zf Zw os e w σ H) (g : Gr [] H H') (hp : H p = none) (h : H' p = some o) : Rl M K (fun a => Zf a ∨ a = p) Zw os e w σ H' where
  va i d h := let ⟨v, h1, h2⟩ := r.va i d h; ⟨v, h1, ((h2.addZ hp).gr g).less fun a z => by
    rcases z with (z | z) | z
    · exact .inl (.inl z)
    · exact .inr z
    · exact .inl (.inr z)⟩
  ow i ds h := let ⟨a, xs, h1, h2, h3, h4⟩ := r.ow i ds h; ⟨a, xs, h1, h2, g.get0 h3, ((h4.addZ hp).gr g).less fun a z => by
    rcases z with (z | z) | z
    · exact .inl (.inl z)
    · exact .inr z
    · exact .inl (.inr z)⟩
  len := r.len
  inj := r.inj
  dis i a q := let ⟨h1, h2, h3⟩ := r.dis i a q; ⟨fun z => z.elim h1 fun z => r.new hp (.inr (.inr ⟨i, by rw [← z]; exact q⟩)), h2, h3⟩
  fw a z := z.elim (r.fw a) fun z y => r.new hp (.inr (.inl (by rw [← z]; exact y)))
  fl a z := z.elim (fun z => let ⟨o, h⟩ := r.fl a z; ⟨o, g.get0 h⟩) fun z => ⟨o, by rw [z]; exact h⟩
  m := (r.gr g).m
theorem Rl.back {Zf Zf' Zw : AS1} {os : Nat → Option Addr} {e : En} {w : W} {σ : L2.St} {H : Hp} (r : Rl M K Zf' Zw os e w σ H) (h : ∀ a, Zf a → Zf' a) : Rl M K Zf Zw os e w σ H where
  va i d q := let ⟨v, h1, h2⟩ := r.va i d q; ⟨v, h1, h2.less fun a z => z.imp (h a) id⟩
  ow i ds q := let ⟨a, xs, h1, h2, h3, h4⟩ := r.ow i ds q; ⟨a, xs, h1, h2, h3, h4.less fun a z => z.imp (h a) id⟩
  len := r.len
  inj := r.inj
  dis i a q := let ⟨h1, h2, h3⟩ := r.dis i a q; ⟨fun z => h1 (h a z), h2, h3⟩
  fw a z := r.fw a (h a z)
  fl a z := r.fl a (h a z)
  m := r.m
/-- a list held aside goes to a slot -/
theorem Rl.claim {Zf Zw : AS1} {os : Nat → Option Addr} {e : En} {w : W} {σ : L2.St} {H : Hp} {p : Addr} {xs : List V} {ds : List PD} (r : Rl M K (fun a => Zf a ∨ a = p) Zw os e w σ H) (nf : ¬ Zf p) (i : Nat) (hl0 : i < e.length) (h1 : H p = some (.lst xs)) (h : Rps K (Zt (fun a => Zf a ∨ a = p) Zw os) H ds xs) :
    Rl M K Zf Zw (osOn os i p) (e.set i (some (.ow ds))) w (σ.set i (some (.ref p))) H := by
  have add : ∀ a, Zt Zf Zw (osOn os i p) a → Zt (fun a => Zf a ∨ a = p) Zw os a := by
    intro a z
    rcases z with z | z | ⟨j, z⟩
    · exact .inl (.inl z)
    · exact .inr (.inl z)
    · unfold osOn at z
      split at z
      · cases z; exact .inl (.inr rfl)
      · exact .inr (.inr ⟨j, z⟩)
  have nw : ¬ Zw p := r.fw p (.inr rfl)
  have no : ∀ j, os j ≠ some p := fun j h => (r.dis j p h).1 (.inr rfl)
  exact {
    va := fun j d' q => by
      rcases get_set q with ⟨rfl, hl, q⟩ | ⟨hji, q⟩
      · cases q
      · obtain ⟨u, h1, h2⟩ := r.va j d' q
        exact ⟨u, by rw [List.getElem?_set_ne hji]; exact h1, h2.less add⟩
    ow := fun j ds' q => by
      rcases get_set q with ⟨rfl, hl, q⟩ | ⟨hji, q⟩
      · cases q
        exact ⟨p, xs, by unfold osOn; rw [if_pos rfl], List.getElem?_set_self (by rw [← r.len]; exact hl), h1, h.less add⟩
      · obtain ⟨a, ys, k1, k2, k3, k4⟩ := r.ow j ds' q
        exact ⟨a, ys, by unfold osOn; rw [if_neg (Ne.symm hji)]; exact k1, by rw [List.getElem?_set_ne hji]; exact k2, k3, k4.less add⟩
    len := by rw [List.length_set, List.length_set]; exact r.len
    inj := fun j l a h1 h2 => by
      unfold osOn at h1 h2
      split at h1 <;> split at h2
      · rename_i x y; rw [x, y]
      · cases h1; exact absurd h2 (no _)
      · cases h2; exact absurd h1 (no _)
      · exact r.inj j l a h1 h2
    dis := fun j a q => by
      unfold osOn at q
      split at q
      · rename_i hj
        cases q
        subst hj
        exact ⟨nf, nw, ds, List.getElem?_set_self hl0⟩
      · rename_i hn
        obtain ⟨h1, h2, ds, h3⟩ := r.dis j a q
        exact ⟨fun z => h1 (.inl z), h2, ds, by rw [List.getElem?_set_ne (Ne.symm hn)]; exact h3⟩
    fw := fun a z => r.fw a (.inl z)
    fl := fun a z => r.fl a (.inl z)
    m := r.m }
/-- an exception out of where something is held aside -/
theorem XOk.aside {Zf Zf' Z : AS1} {H : Hp} (x : XOk M K XE AX Zf Z H) (h : ∀ a, Zf a → Zf' a) : XOk M K XE AX Zf' Z H := fun C dx d v w H' Zw m f y n q k => x C dx d v w H' Zw m (fun a z => f a (h a z)) y n (q.less fun a z => z.imp (h a) id) k
theorem Ext.on' {Z Zw : AS1} {os : Nat → Option Addr} {H H' : Hp} {p : Addr} {i : Nat} (x : Ext Z (Zm Zw os) H H') (hp : H p = none) : Ext Z (Zm Zw (osOn os i p)) H H' :=
  ⟨x.keep, x.tup, x.live, fun a z => by
    rcases z with z | ⟨j, z⟩
    · exact x.sub a (.inl z)
    · unfold osOn at z
      split at z
      · cases z; exact .inr hp
      · exact x.sub a (.inr ⟨j, z⟩)⟩
instance (priority := high) [la : LE M K XE AX ta fa] : LS M K XE AX (tPar i j (tCons (tLst tNil) (tCons ta tNil))) (aParM i j fa) := ⟨fun {Zf Zw os e w σ H A B} r x q k =>
  ⟨Nat.zero_le _, fun p hp => by
    have g : Gr [] H (upd H p (.lst [])) := Gr.new hp
    have nf : ¬ Zf p := fun z => by obtain ⟨o, h⟩ := r.fl p z; rw [hp] at h; cases h
    have r0 := r.aside g hp upd_same
    refine la.run r0 ((x.ext (Gr.ext g)).aside fun a z => .inl z) q fun d e1 w1 v H1 Zw1 os1 r1 x1 p1 q1 => ?_
    have np : ¬ Zm Zw os p := fun z => r.new hp (.inr z)
    have hp1 : H1 p = some (.lst []) := x1.keep _ _ upd_same np
    have r2 := r1.claim nf i (ds := []) q1.1 hp1 rps_nil
    have p2 : Rp K (Zt Zf Zw1 (osOn os1 i p)) H1 d v := p1.less fun a z => by
      rcases z with z | z | ⟨l, z⟩
      · exact .inl (.inl z)
      · exact .inr (.inl z)
      · unfold osOn at z
        split at z
        · cases z; exact .inl (.inr rfl)
        · exact .inr (.inr ⟨l, z⟩)
    have r3 := r2.setVa j p2
    exact ⟨.ref p, v, rfl, k.nx r3 ((Ext.on' ((Ext.trans (Gr.ext g) x1)) hp).trans Ext.off) q1.2⟩⟩⟩
/-- (.., [], ..): the second a new list -/
def aPar3N (i j l : Nat) (fa fc : AE W) : AS W := fun A e w => fa e w fun d e w => fc e w fun d' e w => SzC (j < e.length) ∧ A.nx (((e.set i (some (.va d))).set j (some (.ow []))).set l (some (.va d'))) w
instance (priority := high) [la : LE M K XE AX ta fa] [lc : LE M K XE AX tc fc] : LS M K XE AX (tPar3 i j l (tCons ta (tCons (tLst tNil) (tCons tc tNil)))) (aPar3N i j l fa fc) := ⟨fun {Zf Zw os e w σ H A B} r x q k =>
  la.run r x q fun d1 e1 w1 v1 H1 Zw1 os1 r1 x1 p1 q1 => ⟨Nat.zero_le _, fun p hp => by
    have g : Gr [] H1 (upd H1 p (.lst [])) := Gr.new hp
    have nf : ¬ Zf p := fun z => by obtain ⟨o, h⟩ := r1.fl p z; rw [hp] at h; cases h
    have r0 := r1.aside g hp upd_same
    refine lc.run r0 (((x.ext x1).ext (Gr.ext g)).aside fun a z => .inl z) q1 fun d e2 w2 v H2 Zw2 os2 r2 x2 p2 q2 => ?_
    have np : ¬ Zm Zw1 os1 p := fun z => r1.new hp (.inr z)
    have hp1 : H2 p = some (.lst []) := x2.keep _ _ upd_same np
    have p1' : Rp K (Zt (fun a => Zf a ∨ a = p) Zw2 os2) H2 d1 v1 := Rp.ext x2 (((p1.addZ hp).gr g).less fun a z => by
      rcases z with (z | z) | z
      · exact .inl (.inl z)
      · exact .inr z
      · exact .inl (.inr z))
    have r3 := r2.setVa i p1'
    have r4 := r3.claim nf j (ds := []) (by rw [List.length_set]; exact q2.1) hp1 rps_nil
    have p3 : Rp K (Zt Zf Zw2 (osOn (osOff os2 i) j p)) H2 d v := p2.less fun a z => by
      rcases z with z | z | ⟨l, z⟩
      · exact .inl (.inl z)
      · exact .inr (.inl z)
      · unfold osOn at z
        split at z
        · cases z; exact .inl (.inr rfl)
        · unfold osOff at z
          split at z
          · cases z
          · exact .inr (.inr ⟨l, z⟩)
    have r5 := r4.setVa l p3
    exact ⟨v1, .ref p, v, rfl, k.nx r5 ((x1.trans ((Ext.on' (((Gr.ext g).trans x2).trans Ext.off) hp))).trans Ext.off) q2.2⟩⟩⟩
/-! x += e -/
class LIp (K : PySem.W.Frag) (r : TIp) (a : outParam (PD → PD → (PD → Prop) → Prop)) : Prop where
  run : ∀ {Z : AS1} {H : Hp} {dx dy : PD} {x y : V} {P : PD → Prop} {R : VK}, (∀ a, Z a → ∃ o, H a = some o) → Rp K Z H dx x → Rp K Z H dy y → a dx dy P → (∀ d v H', Gr [] H H' → Rp K Z H' d v → P d → R v H') → r x y H R
def aAug (i : Nat) (fa : AE W) (f : PD → PD → (PD → Prop) → Prop) : AS W := fun A e w => ∃ d, e[i]? = some (some (.va d)) ∧ fa e w fun d' e w => f d d' fun z => A.nx (e.set i (some (.va z))) w
instance {ti : TIp} {f : PD → PD → (PD → Prop) → Prop} [la : LE M K XE AX ta fa] [li : LIp K ti f] : LS M K XE AX (tAug i ta ti) (aAug i fa f) := ⟨fun r x q k => by
  obtain ⟨d, hd, q⟩ := q
  obtain ⟨v0, h0, p0⟩ := r.va i d hd
  exact ⟨v0, h0, la.run r x q fun d e1 w1 v H1 Zw1 os1 r1 x1 p1 q1 => li.run r1.lv (Rp.ext x1 p0) p1 q1 fun d2 v2 H2 g p2 q2 => k.nx ((r1.gr g).setVa i p2) (x1.trans ((Gr.ext g).trans Ext.off)) q2⟩⟩
/-! a slot's own list -/
/-- x.append(e) -/
def aApp (i : Nat) (fa : AE W) : AS W := fun A e w => (∃ ds, e[i]? = some (some (.ow ds))) ∧ fa e w fun d e w => ∃ ds, e[i]? = some (some (.ow ds)) ∧ SzC (ds.length < 16000000) ∧ A.nx (e.set i (some (.ow (ds ++ [d])))) w
instance (priority := high) [la : LE M K XE AX ta fa] : LS M K XE AX (tDrop (tBM K "list" rAppend (tVar i) (tCons ta tNil))) (aApp i fa) := ⟨fun {Zf Zw os e w σ H A B} r x q k => by
  obtain ⟨⟨ds0, hd0⟩, q⟩ := q
  obtain ⟨a0, xs0, o0, s0, h0, p0⟩ := r.ow i ds0 hd0
  refine ⟨.ref a0, s0, ⟨.inl ⟨rfl, xs0, .inl (.inl h0)⟩, la.run r x q fun d e1 w1 v H1 Zw1 os1 r1 x1 p1 q1 => ?_⟩⟩
  obtain ⟨ds, hd, hz, q1⟩ := q1
  obtain ⟨a, xs, oa, sa, ha, pa⟩ := r1.ow i ds hd
  rw [s0] at sa; cases sa
  refine ⟨a0, xs, v, rfl, rfl, ha, sz_lt (by have := rps_len pa; unfold SzC at hz; omega), ?_⟩
  obtain ⟨r2, x2⟩ := r1.put hd oa ha (rps_append pa (rps_cons p1 rps_nil))
  exact k.nx r2 (x1.trans x2) q1⟩
/-- x.extend(e) -/
def aExt (i : Nat) (fa : AE W) : AS W := fun A e w => (∃ ds, e[i]? = some (some (.ow ds))) ∧ fa e w fun d e w => ∃ ds es, e[i]? = some (some (.ow ds)) ∧ d = .lst es ∧ SzC (ds.length + es.length ≤ 16000000) ∧ A.nx (e.set i (some (.ow (ds ++ es)))) w
instance (priority := high) [la : LE M K XE AX ta fa] : LS M K XE AX (tDrop (tBM K "list" rExtend (tVar i) (tCons ta tNil))) (aExt i fa) := ⟨fun {Zf Zw os e w σ H A B} r x q k => by
  obtain ⟨⟨ds0, hd0⟩, q⟩ := q
  obtain ⟨a0, xs0, o0, s0, h0, p0⟩ := r.ow i ds0 hd0
  refine ⟨.ref a0, s0, ⟨.inl ⟨rfl, xs0, .inl (.inl h0)⟩, la.run r x q fun d e1 w1 v H1 Zw1 os1 r1 x1 p1 q1 => ?_⟩⟩
  obtain ⟨ds, es, hd, rfl, hz, q1⟩ := q1
  obtain ⟨a, xs, oa, sa, ha, pa⟩ := r1.ow i ds hd
  rw [s0] at sa; cases sa
  obtain ⟨b, ys, rfl, nb, hb, pb⟩ := rp_lst p1
  refine ⟨a0, b, xs, ys, rfl, rfl, ha, hb, sz_of (by have := rps_len pa; have := rps_len pb; unfold SzC at hz; omega), ?_⟩
  obtain ⟨r2, x2⟩ := r1.put hd oa ha (rps_append pa pb)
  exact k.nx r2 (x1.trans x2) q1⟩
/-- len(x), x[e] of a slot's own list: it stays so -/
def aLenO (i : Nat) : AE W := fun e w Q => match e[i]? with
  | some (some (.ow ds)) => Q (.int ds.length) e w
  | some (some (.va (.lst ds))) => Q (.int ds.length) e w
  | some (some (.va (.tup ds))) => Q (.int ds.length) e w
  | some (some (.va (.ro ds))) => Q (.int ds.length) e w
  | some (some (.va (.str z))) => SzC (z.length ≤ 16777216) ∧ Q (.int z.length) e w
  | _ => False
instance (priority := high) : LE M K XE AX (tCB (rLenA K) (tCons (tVar i) tNil)) (aLenO i) := ⟨fun {Zf Zw os e w σ H Q R} r x q k => by
  unfold aLenO at q
  split at q
  · rename_i ds h
    obtain ⟨a, xs, h1, h2, h3, h4⟩ := r.ow i ds h
    exact ⟨.ref a, h2, w_lenL (SqL.of h3) (k _ _ _ _ _ _ _ r Ext.refl (by rw [rps_len h4]; exact mk_int) q)⟩
  · rename_i ds h
    obtain ⟨v, h1, h2⟩ := r.va i _ h
    obtain ⟨a, xs, rfl, _, h3, h4⟩ := rp_lst h2
    exact ⟨.ref a, h1, w_lenL (SqL.of h3) (k _ _ _ _ _ _ _ r Ext.refl (by rw [rps_len h4]; exact mk_int) q)⟩
  · rename_i ds h
    obtain ⟨v, h1, h2⟩ := r.va i _ h
    obtain ⟨a, xs, rfl, h3, h4⟩ := rp_tup h2
    exact ⟨.ref a, h1, w_lenT h3.sqT (k _ _ _ _ _ _ _ r Ext.refl (by rw [rps_len h4]; exact mk_int) q)⟩
  · rename_i ds h
    obtain ⟨v, h1, h2⟩ := r.va i _ h
    obtain ⟨a, xs, rfl, h3, h4⟩ := rp_ro h2
    exact ⟨.ref a, h1, w_lenL h3.sqL (k _ _ _ _ _ _ _ r Ext.refl (by rw [rps_len h4]; exact mk_int) q)⟩
  · rename_i z h
    obtain ⟨v, h1, h2⟩ := r.va i _ h
    obtain rfl := rp_str h2
    exact ⟨.str z, h1, w_lenS q.1 (k _ _ _ _ _ _ _ r Ext.refl mk_int q.2)⟩
  · exact q.elim⟩
def aIxO (i : Nat) (fb : AE W) (f : PD → PD → (PD → Prop) → Prop) : AE W := fun e w Q => match e[i]? with
  | some (some (.ow ds)) => fb e w fun d e' w => SzC (e' = e) ∧ ∃ k c, d = .int k ∧ atI ds k = some c ∧ Q c e w
  | some (some (.va c)) => fb e w fun d e w => f c d fun z => Q z e w
  | _ => False
theorem atI_rps {Z : AS1} {H : Hp} {ds : List PD} {xs : List V} {k : Int} {c : PD} (h : Rps K Z H ds xs) (e : atI ds k = some c) : ∃ x, atI xs k = some x ∧ Rp K Z H c x := by
  unfold atI at e ⊢
  rw [rps_len h]
  cases hx : ixN ds.length k with
  | none => rw [hx] at e; cases e
  | some i =>
    rw [hx] at e
    simp only [Option.bind_some] at e ⊢
    exact rps_get' h e
instance (priority := high) {f : PD → PD → (PD → Prop) → Prop} [lr : LR2 K (rIxA K) f] [lb : LE M K XE AX tb fb] : LE M K XE AX (tOp (rIxA K) (tVar i) tb) (aIxO i fb f) := ⟨fun {Zf Zw os e w σ H Q R} r x q k => by
  unfold aIxO at q
  split at q
  · rename_i ds h
    obtain ⟨a, xs, h1, h2, h3, h4⟩ := r.ow i ds h
    refine ⟨.ref a, h2, lb.run r x q fun d e1 w1 v H1 Zw1 os1 r1 x1 p1 q1 => ?_⟩
    obtain ⟨he, kk, c, rfl, hc, q1⟩ := q1
    have he : e1 = e := he
    subst he
    obtain ⟨a', xs', h1', h2', h3', h4'⟩ := r1.ow i ds h
    rw [h2] at h2'; cases h2'
    obtain rfl := rp_int p1
    obtain ⟨y, hy, py⟩ := atI_rps h4' hc
    exact w_ixL (SqL.of h3') hy (k _ _ _ _ _ _ _ r1 x1 py q1)
  · rename_i c h
    obtain ⟨v, h1, h2⟩ := r.va i _ h
    exact ⟨v, h1, lb.run r x q fun d e1 w1 v1 H1 Zw1 os1 r1 x1 p1 q1 => lr.run r1.lv (Rp.ext x1 h2) p1 q1 fun d v2 H2 g p q => k _ _ _ _ _ _ _ (r1.gr g) (x1.trans (Gr.ext g)) p q⟩
  · exact q.elim⟩
end
end RS
set_option Elab.async false
set_option linter.all false
set_option maxRecDepth 100000
set_option maxHeartbeats 4000000
/-! Dl: loops, comprehensions, calls over data. -/
namespace RS
open PySem L2
abbrev AI (W : Type) := En → W → (List PD → En → W → Prop) → Prop
/-- an iterator gives the data ds, while what stood stands -/
structure ItOk (K : PySem.W.Frag) (J : It) (ds : List PD) (Zf Z0 : AS1) (H0 : Hp) : Prop where
  go : ∀ (Zx Z : AS1) (H : Hp), Ext Z0 Z H0 H → (∀ a, Zx a → Zf a ∨ Z a ∨ H0 a = none) → (∀ a, Zx a → ∃ o, H a = some o) →
    (∀ (i : Nat) d, ds[i]? = some d → J.go i H ∧ ∀ x H', J.yld i H x H' → Gr [] H H' ∧ Rp K Zx H' d x) ∧ J.stop ds.length H
class LI {W : Type} (M : WM W) (K : PySem.W.Frag) (XE : XK) (AX : XA W) (t : TI) (a : outParam (AI W)) : Prop where
  run : ∀ {Zf Zw : AS1} {os : Nat → Option Addr} {e : En} {w : W} {σ : L2.St} {H : Hp} {Q : List PD → En → W → Prop} {R : It → Hp → Prop}, Rl M K Zf Zw os e w σ H → XOk M K XE AX Zf (Zm Zw os) H → a e w Q →
    (∀ ds e' w' J H' Zw' os', Rl M K Zf Zw' os' e' w' σ H' → Ext (Zm Zw os) (Zm Zw' os') H H' → ItOk K J ds Zf (Zm Zw' os') H' → Q ds e' w' → R J H') → t σ H R
theorem Rps.nonZ {K : PySem.W.Frag} {Zf Z0 Z Zx : AS1} {H0 H : Hp} {ds : List PD} {xs : List V} (h : Rps K (Zor Zf Z0) H0 ds xs) (x : Ext Z0 Z H0 H) (k : ∀ a, Zx a → Zf a ∨ Z a ∨ H0 a = none) : Rps K Zx H ds xs := by
  have y : Ext Z0 (fun a => Z0 a ∨ H0 a = none) H0 H0 := ⟨fun _ _ h _ => h, fun _ _ h => h, fun _ o h => ⟨o, h⟩, fun a z => z⟩
  have h1 := Rps.ext y h
  have z : Ext (fun a => Z0 a ∨ H0 a = none) (fun a => Z a ∨ H0 a = none) H0 H := ⟨fun a o e n => x.keep a o e fun z => n (.inl z), x.tup, x.live, fun a z => z.elim (fun z => (x.sub a z).imp .inl id) fun z => .inr z⟩
  exact (Rps.ext z h1).less fun a q => k a q
theorem Rp.nonZ {K : PySem.W.Frag} {Zf Z0 Z Zx : AS1} {H0 H : Hp} {d : PD} {v : V} (h : Rp K (Zor Zf Z0) H0 d v) (x : Ext Z0 Z H0 H) (k : ∀ a, Zx a → Zf a ∨ Z a ∨ H0 a = none) : Rp K Zx H d v := by
  obtain ⟨y, r, e, h1, _⟩ := rps_cons' (Rps.nonZ (rps_cons h rps_nil) x k)
  cases e
  exact h1
theorem it_list {K : PySem.W.Frag} {a : Addr} {ds : List PD} {xs : List V} {Zf Z0 : AS1} {H0 : Hp} (ha : H0 a = some (.lst xs)) (na : ¬ Z0 a) (h : Rps K (Zor Zf Z0) H0 ds xs) : ItOk K (Itl K a) ds Zf Z0 H0 := ⟨fun Zx Z H x k lv => by
  have e := x.keep _ _ ha na
  have h' := Rps.nonZ h x k
  refine ⟨fun i d hi => ?_, xs, SqL.of e, by rw [rps_len h]; exact Nat.le_refl _⟩
  obtain ⟨y, hy, py⟩ := rps_get' h' hi
  exact ⟨⟨xs, y, SqL.of e, hy⟩, fun z H' hq => by
    obtain ⟨rfl, q⟩ := hq
    have := q xs (SqL.of e)
    rw [hy] at this; cases this
    exact ⟨Gr.refl _ _, py⟩⟩⟩
theorem it_tup {K : PySem.W.Frag} {a : Addr} {ds : List PD} {xs : List V} {Zf Z0 : AS1} {H0 : Hp} (ha : TupAt K H0 a xs) (h : Rps K (Zor Zf Z0) H0 ds xs) : ItOk K (Itt K a) ds Zf Z0 H0 := ⟨fun Zx Z H x k lv => by
  have e := (ha.ext x).sqT
  have h' := Rps.nonZ h x k
  refine ⟨fun i d hi => ?_, xs, e, by rw [rps_len h]; exact Nat.le_refl _⟩
  obtain ⟨y, hy, py⟩ := rps_get' h' hi
  exact ⟨⟨xs, y, e, hy⟩, fun z H' hq => by
    obtain ⟨rfl, q⟩ := hq
    have := q xs e
    rw [hy] at this; cases this
    exact ⟨Gr.refl _ _, py⟩⟩⟩
def signsD (z : Str) : List PD := z.cps.toList.map fun c => .str ⟨#[c]⟩
theorem it_str {K : PySem.W.Frag} {z : Str} {Zf Z0 : AS1} {H0 : Hp} : ItOk K (Its z) (signsD z) Zf Z0 H0 := ⟨fun Zx Z H x k lv => by
  refine ⟨fun i d hi => ?_, ?_⟩
  · have hi' : i < z.cps.size := by have := (List.getElem?_eq_some_iff.mp hi).1; simpa [signsD] using this
    refine ⟨walk_str.goes i H hi' trivial, fun y H' hq => ?_⟩
    obtain ⟨rfl, c, h1, rfl⟩ := walk_str.yields i H y H' hi' trivial hq
    refine ⟨Gr.refl _ _, ?_⟩
    simp [signsD, h1] at hi
    subst hi
    exact mk_str
  · have := walk_str (z := z).stops H trivial
    simpa [signsD] using this⟩
def intsD (lo : Int) (n : Nat) : List PD := (List.range n).map fun (i : Nat) => .int (lo + (i : Int))
theorem it_rng {K : PySem.W.Frag} {lo : Int} {n : Nat} {Zf Z0 : AS1} {H0 : Hp} : ItOk K (Itr lo n) (intsD lo n) Zf Z0 H0 := ⟨fun Zx Z H x k lv => by
  refine ⟨fun i d hi => ?_, by show n ≤ (intsD lo n).length; simp [intsD]⟩
  have hi' : i < n := by have := (List.getElem?_eq_some_iff.mp hi).1; simpa [intsD] using this
  refine ⟨hi', fun y H' hq => ?_⟩
  obtain ⟨rfl, rfl⟩ := hq
  refine ⟨Gr.refl _ _, ?_⟩
  simp [intsD, hi'] at hi
  subst hi
  exact mk_int⟩
/-- enumerate -/
def enumD : Nat → List PD → List PD
  | _, [] => []
  | n, d :: r => .tup [.int (n : Int), d] :: enumD (n + 1) r
theorem enumD_len : ∀ (ds : List PD) (n : Nat), (enumD n ds).length = ds.length
  | [], _ => rfl
  | d :: r, n => by simp [enumD, enumD_len r]
theorem enumD_get : ∀ (ds : List PD) (n i : Nat), (enumD n ds)[i]? = (ds[i]?).map fun d => .tup [.int ((n + i : Nat) : Int), d]
  | [], _, _ => by simp [enumD]
  | d :: r, n, 0 => by simp [enumD]
  | d :: r, n, i + 1 => by
    simp only [enumD, List.getElem?_cons_succ]
    rw [enumD_get r (n + 1) i]
    congr 1
    funext d
    rw [show n + 1 + i = n + (i + 1) by omega]
theorem it_enum {K : PySem.W.Frag} {a : Addr} {ds : List PD} {xs : List V} {Zf Z0 : AS1} {H0 : Hp} (ha : H0 a = some (.lst xs)) (na : ¬ Z0 a) (h : Rps K (Zor Zf Z0) H0 ds xs) : ItOk K (Ite K a) (enumD 0 ds) Zf Z0 H0 := ⟨fun Zx Z H x k lv => by
  have e := SqL.of (K := K) (x.keep _ _ ha na)
  have h' := Rps.nonZ h x k
  have hl := rps_len h
  refine ⟨fun i d hi => ?_, ?_⟩
  · rw [enumD_get, Option.map_eq_some_iff] at hi
    obtain ⟨c, hc, rfl⟩ := hi
    have hlt : i < xs.length := by rw [hl]; exact (List.getElem?_eq_some_iff.mp hc).1
    refine ⟨walk_enum.goes i H hlt e, fun y H' hq => ?_⟩
    obtain ⟨T, x1, x2, rfl, hT, rfl, h1, h2⟩ := walk_enum.yields i H y H' hlt e hq
    cases h1
    obtain ⟨y, hy, py⟩ := rps_get' h' hc
    replace h2 : xs[i]? = some x2 := h2
    rw [hy] at h2; cases h2
    refine ⟨Gr.new hT, mk_tup upd_same (rps_cons ?_ (rps_cons (py.gr (Gr.new hT)) rps_nil))⟩
    rw [Nat.zero_add]; exact mk_int
  · rw [enumD_len, ← hl]; exact walk_enum.stops H e⟩
section
variable {W : Type} {M : WM W} {K : PySem.W.Frag} {XE : XK} {AX : XA W} {ta tb tc : TE} {tt tu : TT} {tA : TA} {fa fb fc : AE W} {ft fu : AT W} {fA : AA W} {i j l : Nat} {t u : TS} {fs fu' : AS W} {wi : TI} {fi : AI W}
def aiVar (i : Nat) : AI W := fun e w Q => match e[i]? with
  | some (some (.va (.lst ds))) => Q ds e w
  | some (some (.va (.tup ds))) => Q ds e w
  | some (some (.va (.str z))) => Q (signsD z) e w
  | some (some (.ow ds)) => Q ds (e.set i (some (.va (.lst ds)))) w
  | _ => False
theorem Zt_nm {Zf Zw : AS1} {os : Nat → Option Addr} {a : Addr} (h : ¬ Zt Zf Zw os a) : ¬ Zm Zw os a := fun z => h (.inr z)
instance (priority := high) : LI M K XE AX (iAny K (tVar i)) (aiVar i) := ⟨fun {Zf Zw os e w σ H Q R} r x q k => by
  unfold aiVar at q
  split at q
  · rename_i ds h
    obtain ⟨v, h1, h2⟩ := r.va i _ h
    obtain ⟨a, xs, rfl, n, h3, h4⟩ := rp_lst h2
    exact .inl ⟨.ref a, h1, a, rfl, ⟨xs, SqL.of h3⟩, k _ _ _ _ _ _ _ r Ext.refl (it_list h3 (Zt_nm n) h4) q⟩
  · rename_i ds h
    obtain ⟨v, h1, h2⟩ := r.va i _ h
    obtain ⟨a, xs, rfl, h3, h4⟩ := rp_tup h2
    exact .inr (.inl ⟨.ref a, h1, a, rfl, ⟨xs, h3.sqT⟩, k _ _ _ _ _ _ _ r Ext.refl (it_tup h3 h4) q⟩)
  · rename_i z h
    obtain ⟨v, h1, h2⟩ := r.va i _ h
    obtain rfl := rp_str h2
    exact .inr (.inr ⟨.str z, h1, z, rfl, k _ _ _ _ _ _ _ r Ext.refl it_str q⟩)
  · rename_i ds h
    obtain ⟨v, h1, h2, h3⟩ := r.freeze h
    obtain ⟨a, xs, rfl, n, h5, h4⟩ := rp_lst h2
    exact .inl ⟨.ref a, h1, a, rfl, ⟨xs, SqL.of h5⟩, k _ _ _ _ _ _ _ h3 Ext.off (it_list h5 (Zt_nm n) h4) q⟩
  · exact q.elim⟩
/-- over what an expression tells: a list, a tuple or a text, told ahead -/
def aiAny (fa : AE W) : AI W := fun e w Q => (fa e w fun d e w => ∃ ds, d = .lst ds ∧ Q ds e w) ∨ (fa e w fun d e w => ∃ ds, d = .tup ds ∧ Q ds e w) ∨ (fa e w fun d e w => ∃ z, d = .str z ∧ Q (signsD z) e w)
instance (priority := low) [la : LE M K XE AX ta fa] : LI M K XE AX (iAny K ta) (aiAny fa) := ⟨fun r x q k => by
  rcases q with q | q | q
  · refine .inl (la.run r x q fun d1 e1 w1 v1 H1 Zw1 os1 r1 x1 p1 q1 => ?_)
    obtain ⟨ds, rfl, q1⟩ := q1
    obtain ⟨a, xs, rfl, n, h3, h4⟩ := rp_lst p1
    exact ⟨a, rfl, ⟨xs, SqL.of h3⟩, k _ _ _ _ _ _ _ r1 x1 (it_list h3 (Zt_nm n) h4) q1⟩
  · refine .inr (.inl (la.run r x q fun d1 e1 w1 v1 H1 Zw1 os1 r1 x1 p1 q1 => ?_))
    obtain ⟨ds, rfl, q1⟩ := q1
    obtain ⟨a, xs, rfl, h3, h4⟩ := rp_tup p1
    exact ⟨a, rfl, ⟨xs, h3.sqT⟩, k _ _ _ _ _ _ _ r1 x1 (it_tup h3 h4) q1⟩
  · refine .inr (.inr (la.run r x q fun d1 e1 w1 v1 H1 Zw1 os1 r1 x1 p1 q1 => ?_))
    obtain ⟨z, rfl, q1⟩ := q1
    obtain rfl := rp_str p1
    exact ⟨z, rfl, k _ _ _ _ _ _ _ r1 x1 it_str q1⟩⟩
theorem ai_L {e : En} {w : W} {Q : List PD → En → W → Prop} (h : fa e w fun d e w => ∃ ds, d = .lst ds ∧ Q ds e w) : aiAny fa e w Q := .inl h
theorem ai_T {e : En} {w : W} {Q : List PD → En → W → Prop} (h : fa e w fun d e w => ∃ ds, d = .tup ds ∧ Q ds e w) : aiAny fa e w Q := .inr (.inl h)
theorem ai_S {e : En} {w : W} {Q : List PD → En → W → Prop} (h : fa e w fun d e w => ∃ z, d = .str z ∧ Q (signsD z) e w) : aiAny fa e w Q := .inr (.inr h)
def aiRng1 (fA : AA W) : AI W := fun e w Q => fA e w fun ds e w => ∃ k : Int, ds = [.int k] ∧ SzC (-1000000000 ≤ k ∧ k ≤ 1000000000) ∧ Q (intsD 0 k.toNat) e w
instance [la : LA M K XE AX tA fA] : LI M K XE AX (iRng1 tA) (aiRng1 fA) := ⟨fun r x q k =>
  la.run r x q fun d1 e1 w1 v1 H1 Zw1 os1 r1 x1 p1 q1 => by
    obtain ⟨kk, rfl, hz, q1⟩ := q1
    unfold SzC at hz
    obtain ⟨a, as, rfl, pa, p1⟩ := rps_cons' p1
    obtain rfl := rps_nil' p1
    obtain rfl := rp_int pa
    exact ⟨kk, rfl, by omega, by omega, k _ _ _ _ _ _ _ r1 x1 it_rng q1⟩⟩
def aiRng2 (fA : AA W) : AI W := fun e w Q => fA e w fun ds e w => ∃ k m : Int, ds = [.int k, .int m] ∧ SzC (-1000000000 ≤ k ∧ k ≤ 1000000000 ∧ -1000000000 ≤ m ∧ m ≤ 1000000000) ∧ Q (intsD k (m - k).toNat) e w
instance [la : LA M K XE AX tA fA] : LI M K XE AX (iRng2 tA) (aiRng2 fA) := ⟨fun r x q k =>
  la.run r x q fun d1 e1 w1 v1 H1 Zw1 os1 r1 x1 p1 q1 => by
    obtain ⟨kk, m, rfl, hz, q1⟩ := q1
    unfold SzC at hz
    obtain ⟨a, as, rfl, pa, p1⟩ := rps_cons' p1
    obtain ⟨b, bs, rfl, pb, p1⟩ := rps_cons' p1
    obtain rfl := rps_nil' p1
    obtain rfl := rp_int pa
    obtain rfl := rp_int pb
    exact ⟨kk, m, rfl, ⟨by omega, by omega, by omega, by omega⟩, k _ _ _ _ _ _ _ r1 x1 it_rng q1⟩⟩
def aiEnum (fA : AA W) : AI W := fun e w Q => fA e w fun ds e w => ∃ es, ds = [.lst es] ∧ Q (enumD 0 es) e w
instance [la : LA M K XE AX tA fA] : LI M K XE AX (iEnum K tA) (aiEnum fA) := ⟨fun r x q k =>
  la.run r x q fun d1 e1 w1 v1 H1 Zw1 os1 r1 x1 p1 q1 => by
    obtain ⟨es, rfl, q1⟩ := q1
    obtain ⟨a, as, rfl, pa, p1⟩ := rps_cons' p1
    obtain rfl := rps_nil' p1
    obtain ⟨a, xs, rfl, n, h3, h4⟩ := rp_lst pa
    exact ⟨a, xs, rfl, SqL.of h3, k _ _ _ _ _ _ _ r1 x1 (it_enum h3 (Zt_nm n) h4) q1⟩⟩
/-! for -/
def kkFor (g : PD → En → (En → Prop) → Prop) (fb : AS W) (A : AN W) (ds : List PD) : En → W → Prop := fun e w => ∃ (I : Nat → En → W → Prop) (X : En → W → Prop), I 0 e w ∧ (∀ i e w, I i e w → i < ds.length → ∀ d, ds[i]? = some d → g d e fun e => fb { A with nx := I (i + 1), ct := I (i + 1), bk := X } e w) ∧ (∀ e w, I ds.length e w → X e w) ∧ ∀ e w, X e w → A.nx e w
def aFor (fi : AI W) (g : PD → En → (En → Prop) → Prop) (fb : AS W) : AS W := fun A e w => fi e w fun ds e w => kkFor g fb A ds e w
instance {g : TG} {ix : List Nat} {f : PD → En → (En → Prop) → Prop} [li : LI M K XE AX wi fi] [lg : LG M K g ix f] [ls : LS M K XE AX t fs] : LS M K XE AX (tFor wi g t) (aFor fi f fs) := ⟨fun {Zf Zw os e w σ H A B} r x q k =>
  li.run r x q fun ds e1 w1 J H1 Zw1 os1 r1 x1 it q1 => by
    obtain ⟨I, X, i0, step, fin0, fin⟩ := q1
    refine ⟨fun i m σ' H' => ∃ e' w' Zw' os', Rl M K Zf Zw' os' e' w' σ' H' ∧ Ext (Zm Zw1 os1) (Zm Zw' os') H1 H' ∧ I i e' w' ∧ i ≤ ds.length ∧ m = ds.length - i, ⟨ds.length, e1, w1, Zw1, os1, r1, Ext.refl, i0, Nat.zero_le _, rfl⟩, ?_⟩
    rintro i m σ' H' ⟨e', w', Zw', os', r2, x2, hi, hle, rfl⟩
    obtain ⟨go, stop⟩ := it.go (Zt Zf Zw' os') _ H' x2 (fun a z => z.elim .inl fun z => .inr (.inl z)) r2.lv
    by_cases hlt : i < ds.length
    · have hd : ds[i]? = some ds[i] := List.getElem?_eq_getElem hlt
      obtain ⟨g1, g2⟩ := go i _ hd
      refine .inr ⟨g1, fun σ2 H2 => ∃ e' w' Zw' os', Rl M K Zf Zw' os' e' w' σ2 H2 ∧ Ext (Zm Zw1 os1) (Zm Zw' os') H1 H2 ∧ I (i + 1) e' w', fun σ2 H2 ⟨e', w', Zw', os', a1, a2, a3⟩ => ⟨ds.length - (i + 1), by omega, e', w', Zw', os', a1, a2, a3, hlt, rfl⟩, fun x3 H3 y => ?_⟩
      obtain ⟨gr, rp⟩ := g2 x3 H3 y
      have x3 := x2.trans (Gr.ext gr)
      refine lg.run (r2.gr gr) rp (step i e' w' hi hlt _ hd) fun e4 σ4 os4 r4 x4 _ _ q4 => ?_
      have x5 := x3.trans x4
      exact ls.run r4 (x.ext (x1.trans x5)) q4 ⟨fun r6 x6 q6 => ⟨_, _, _, _, r6, x5.trans x6, q6⟩, fun r6 x6 q6 => k.nx r6 (x1.trans (x5.trans x6)) (fin _ _ q6), fun r6 x6 q6 => ⟨_, _, _, _, r6, x5.trans x6, q6⟩, fun m f z r q => k.rt m f (x1.trans (x5.trans z)) r q⟩
    · have e0 : i = ds.length := by omega
      subst e0
      exact .inl ⟨stop, k.nx r2 (x1.trans x2) (fin e' w' (fin0 e' w' hi))⟩⟩
/-! while -/
def aWhile (ft : AT W) (fb : AS W) : AS W := fun A e w => ∃ (I : Nat → En → W → Prop) (X : En → W → Prop), (∃ m, I m e w) ∧ (∀ m e w, I m e w → ft e w fun b e w => if b = true then fb { A with nx := fun e w => ∃ m', m' < m ∧ I m' e w, ct := fun e w => ∃ m', m' < m ∧ I m' e w, bk := X } e w else X e w) ∧ ∀ e w, X e w → A.nx e w
instance [lt : LT M K XE AX tt ft] [ls : LS M K XE AX t fs] : LS M K XE AX (tWhile tt t) (aWhile ft fs) := ⟨fun {Zf Zw os e w σ H A B} r x q k => by
  obtain ⟨I, X, ⟨m0, i0⟩, step, fin⟩ := q
  refine ⟨fun m σ' H' => ∃ e' w' Zw' os', Rl M K Zf Zw' os' e' w' σ' H' ∧ Ext (Zm Zw os) (Zm Zw' os') H H' ∧ I m e' w', ⟨m0, e, w, Zw, os, r, Ext.refl, i0⟩, ?_⟩
  rintro m σ' H' ⟨e', w', Zw', os', r2, x2, hi⟩
  refine lt.run r2 (x.ext x2) (step m e' w' hi) fun b e1 w1 H1 Zw1 os1 r1 x1 q1 => ?_
  cases b with
  | true =>
    refine (if_pos rfl).mpr ⟨fun σ2 H2 => ∃ m', m' < m ∧ ∃ e' w' Zw' os', Rl M K Zf Zw' os' e' w' σ2 H2 ∧ Ext (Zm Zw os) (Zm Zw' os') H H2 ∧ I m' e' w', fun σ2 H2 h => h, ?_⟩
    have x5 := x2.trans x1
    exact ls.run r1 (x.ext x5) ((if_pos rfl).mp q1) ⟨fun r6 x6 ⟨m', hm, q6⟩ => ⟨m', hm, _, _, _, _, r6, x5.trans x6, q6⟩, fun r6 x6 q6 => k.nx r6 (x5.trans x6) (fin _ _ q6), fun r6 x6 ⟨m', hm, q6⟩ => ⟨m', hm, _, _, _, _, r6, x5.trans x6, q6⟩, fun m f z r q => k.rt m f (x5.trans z) r q⟩
  | false => exact (if_neg Bool.false_ne_true).mpr (k.nx r1 (x2.trans x1) (fin _ _ ((if_neg Bool.false_ne_true).mp q1)))⟩
/-! comprehensions -/
def wipeE (e : En) : List Nat → En
  | [] => e
  | v :: vs => (wipeE e vs).set v none
def wipeO (os : Nat → Option Addr) (vs : List Nat) : Nat → Option Addr := fun j => if j ∈ vs then none else os j
theorem wipeE_len (e : En) : ∀ vs : List Nat, (wipeE e vs).length = e.length
  | [] => rfl
  | v :: vs => by unfold wipeE; rw [List.length_set, wipeE_len e vs]
theorem wipeE_get {e : En} {j : Nat} : ∀ {vs : List Nat} {s : Sl}, (wipeE e vs)[j]? = some (some s) → j ∉ vs ∧ e[j]? = some (some s)
  | [], s, h => ⟨(fun z => nomatch z), h⟩
  | v :: vs, s, h => by
    unfold wipeE at h
    rcases get_set h with ⟨rfl, _, q⟩ | ⟨hn, q⟩
    · cases q
    · obtain ⟨h1, h2⟩ := wipeE_get q
      exact ⟨fun z => (List.mem_cons.mp z).elim (fun z => hn z.symm) h1, h2⟩
theorem wipeE_out {e : En} {j : Nat} : ∀ {vs : List Nat}, j ∉ vs → (wipeE e vs)[j]? = e[j]?
  | [], h => rfl
  | v :: vs, h => by
    unfold wipeE
    rw [List.getElem?_set_ne (fun z => h (List.mem_cons.mpr (.inl z.symm)))]
    exact wipeE_out fun z => h (List.mem_cons_of_mem _ z)
theorem wipe_out {e : L2.St} {j : Nat} : ∀ {vs : List Nat}, j ∉ vs → (wipe e vs)[j]? = e[j]?
  | [], h => rfl
  | v :: vs, h => by
    unfold wipe
    rw [List.getElem?_set_ne (fun z => h (List.mem_cons.mpr (.inl z.symm)))]
    exact wipe_out fun z => h (List.mem_cons_of_mem _ z)
theorem wipe_in {e : L2.St} {j : Nat} : ∀ {vs : List Nat}, j ∈ vs → j < e.length → (wipe e vs)[j]? = some none
  | [], h, _ => nomatch h
  | v :: vs, h, hl => by
    unfold wipe
    by_cases hv : v = j
    · subst hv
      rw [List.getElem?_set_self (by rw [wipe_length]; exact hl)]
    · rw [List.getElem?_set_ne hv]
      exact wipe_in ((List.mem_cons.mp h).elim (fun z => absurd z.symm hv) id) hl
theorem wipe_eq {σ σ' : L2.St} {ix vs : List Nat} (hl : σ'.length = σ.length) (hn : ∀ j, j ∉ ix → σ'[j]? = σ[j]?) (hs : ∀ i ∈ ix, i ∈ vs) : wipe σ' vs = wipe σ vs := by
  apply List.ext_getElem?
  intro j
  by_cases h : j ∈ vs
  · by_cases hj : j < σ.length
    · rw [wipe_in h hj, wipe_in h (by rw [hl]; exact hj)]
    · rw [List.getElem?_eq_none (by rw [wipe_length]; omega), List.getElem?_eq_none (by rw [wipe_length]; omega)]
  · rw [wipe_out h, wipe_out h]
    exact hn j fun z => h (hs j z)
theorem wipe_wipe {σ : L2.St} {vs : List Nat} : wipe (wipe σ vs) vs = wipe σ vs := by
  apply List.ext_getElem?
  intro j
  by_cases h : j ∈ vs
  · by_cases hj : j < σ.length
    · rw [wipe_in h hj, wipe_in h (by rw [wipe_length]; exact hj)]
    · rw [List.getElem?_eq_none (by rw [wipe_length, wipe_length]; omega), List.getElem?_eq_none (by rw [wipe_length]; omega)]
  · rw [wipe_out h]
/-- the slots of a comprehension's own names forgotten -/
theorem Rl.wipe {Zf Zw : AS1} {os : Nat → Option Addr} {e : En} {w : W} {σ : L2.St} {H : Hp} (r : Rl M K Zf Zw os e w σ H) (vs : List Nat) : Rl M K Zf Zw (wipeO os vs) (wipeE e vs) w (L2.wipe σ vs) H := by
  have off : ∀ a, Zt Zf Zw (wipeO os vs) a → Zt Zf Zw os a := fun a z => z.imp id fun z => z.imp id fun ⟨j, h⟩ => ⟨j, by unfold wipeO at h; split at h; cases h; exact h⟩
  exact {
    va := fun i d h => by
      obtain ⟨h1, h2⟩ := wipeE_get h
      obtain ⟨v, q1, q2⟩ := r.va i d h2
      exact ⟨v, by rw [wipe_out h1]; exact q1, q2.less off⟩
    ow := fun i ds h => by
      obtain ⟨h1, h2⟩ := wipeE_get h
      obtain ⟨a, xs, q1, q2, q3, q4⟩ := r.ow i ds h2
      exact ⟨a, xs, by unfold wipeO; rw [if_neg h1]; exact q1, by rw [wipe_out h1]; exact q2, q3, q4.less off⟩
    len := by rw [wipeE_len, wipe_length]; exact r.len
    inj := fun i j a h1 h2 => by
      unfold wipeO at h1 h2
      split at h1 <;> split at h2 <;> first | cases h1 | cases h2 | exact r.inj i j a h1 h2
    dis := fun i a h => by
      unfold wipeO at h
      split at h
      · cases h
      · rename_i hn
        obtain ⟨h1, h2, ds, h3⟩ := r.dis i a h
        exact ⟨h1, h2, ds, by rw [wipeE_out hn]; exact h3⟩
    fw := r.fw
    fl := r.fl
    m := r.m }
def noOw (e : En) (vs : List Nat) : Prop := ∀ v ∈ vs, ∀ ds, e[v]? ≠ some (some (Sl.ow ds))
def kkLc (g : PD → En → (En → Prop) → Prop) (ft : AT W) (fa : AE W) (vs : List Nat) (ix : List Nat) (ds : List PD) (Q : PD → En → W → Prop) : En → W → Prop := fun e w => SzC (ds.length ≤ 15000000) ∧ noOw e vs ∧ SzC (∀ i ∈ ix, i ∈ vs) ∧
  ∃ I : Nat → List PD → W → Prop, I 0 [] w ∧ (∀ i acc w, I i acc w → i < ds.length → acc.length ≤ i → ∀ d, ds[i]? = some d → g d (wipeE e vs) fun e' => ft e' w fun b e' w => if b = true then fa e' w fun y e'' w => SzC (wipeE e'' vs = wipeE e vs) ∧ I (i + 1) (acc ++ [y]) w
    else SzC (wipeE e' vs = wipeE e vs) ∧ I (i + 1) acc w) ∧ ∀ acc w, I ds.length acc w → acc.length ≤ ds.length → Q (.lst acc) e w
def aLc (fi : AI W) (g : PD → En → (En → Prop) → Prop) (ft : AT W) (fa : AE W) (vs ix : List Nat) : AE W := fun e w Q => fi e w fun ds e w => kkLc g ft fa vs ix ds Q e w
instance {g : TG} {ix vs : List Nat} {f : PD → En → (En → Prop) → Prop} [li : LI M K XE AX wi fi] [lg : LG M K g ix f] [lt : LT M K XE AX tt ft] [la : LE M K XE AX ta fa] : LE M K XE AX (tLc wi g tt ta vs) (aLc fi f ft fa vs ix) := ⟨fun {Zf Zw os e w σ H Q R} r x q k =>
  li.run r x q fun ds e1 w1 J H1 Zw1 os1 r1 x1 it q1 => by
    obtain ⟨hz, hno, hix, I, i0, step, fin⟩ := q1
    unfold SzC at hz hix
    intro D hD
    have offs : wipeO os1 vs = os1 := by
      funext j
      unfold wipeO
      split
      · rename_i hj
        cases ho : os1 j with
        | none => rfl
        | some a => obtain ⟨_, _, ds, q⟩ := r1.dis j a ho; exact absurd q (hno j hj ds)
      · rfl
    refine ⟨fun i m H' => ∃ w' Zw' acc xs, Rl M K (fun a => Zf a ∨ a = D) Zw' os1 (wipeE e1 vs) w' (L2.wipe σ vs) H' ∧ Ext (Zm Zw1 os1) (Zm Zw' os1) H1 H' ∧ H' D = some (.lst xs) ∧ Rps K (Zt (fun a => Zf a ∨ a = D) Zw' os1) H' acc xs ∧ I i acc w' ∧ acc.length ≤ i ∧ i ≤ ds.length ∧ m = ds.length - i,
      ⟨ds.length, w1, Zw1, [], [], ?_, Gr.ext (Gr.new hD), upd_same, rps_nil, i0, Nat.zero_le _, Nat.zero_le _, rfl⟩, ?_⟩
    · have := (r1.wipe vs).aside (Gr.new (o := .lst []) hD) hD upd_same
      rw [offs] at this
      exact this
    rintro i m H' ⟨w', Zw', acc, xs, r2, x2, hDx, racc, hi, ha, hle, rfl⟩
    have memD : ∀ a, Zf a → Zf a ∨ a = D := fun a z => .inl z
    have itr := it.go (Zt (fun a => Zf a ∨ a = D) Zw' os1) _ H' x2 (fun a z => by
      rcases z with (z | z) | z
      · exact .inl z
      · exact .inr (.inr (by rw [z]; exact hD))
      · exact .inr (.inl z)) r2.lv
    by_cases hlt : i < ds.length
    · have hd : ds[i]? = some ds[i] := List.getElem?_eq_getElem hlt
      obtain ⟨g1, g2⟩ := itr.1 i _ hd
      refine .inr ⟨g1, fun H2 => ∃ w' Zw' acc xs, Rl M K (fun a => Zf a ∨ a = D) Zw' os1 (wipeE e1 vs) w' (L2.wipe σ vs) H2 ∧ Ext (Zm Zw1 os1) (Zm Zw' os1) H1 H2 ∧ H2 D = some (.lst xs) ∧ Rps K (Zt (fun a => Zf a ∨ a = D) Zw' os1) H2 acc xs ∧ I (i + 1) acc w' ∧ acc.length ≤ i + 1,
        fun H2 ⟨w', Zw', acc, xs, a1, a2, a3, a4, a5, a6⟩ => ⟨ds.length - (i + 1), by omega, w', Zw', acc, xs, a1, a2, a3, a4, a5, a6, hlt, rfl⟩, fun x3 H3 y => ?_⟩
      obtain ⟨gr, rp⟩ := g2 x3 H3 y
      have r3 := r2.gr gr
      have y3 := x2.trans (Gr.ext gr)
      refine lg.run r3 rp (step i acc w' hi hlt ha _ hd) fun e4 σ4 os4 r4 x4 l4 n4 q4 => ⟨?_, ?_⟩
      · rw [← wipe_wipe (σ := σ)]
        exact wipe_eq l4 n4 hix
      have hw4 : L2.wipe σ4 vs = L2.wipe σ vs := by rw [← wipe_wipe (σ := σ)]; exact wipe_eq l4 n4 hix
      have xo4 := ((x.ext (x1.trans (y3.trans x4))).aside memD)
      -- the turn's end
      have endTurn : ∀ {e5 : En} {w5 : W} {H5 : Hp} {Zw5 : AS1} {os5 : Nat → Option Addr}, Rl M K (fun a => Zf a ∨ a = D) Zw5 os5 e5 w5 σ4 H5 → wipeE e5 vs = wipeE e1 vs →
          Rl M K (fun a => Zf a ∨ a = D) Zw5 os1 (wipeE e1 vs) w5 (L2.wipe σ vs) H5 ∧ ∀ a, Zm Zw5 os1 a → Zm Zw5 os5 a := by
        intro e5 w5 H5 Zw5 os5 r5 he
        have r6 := r5.wipe vs
        rw [he, hw4] at r6
        have ho : wipeO os5 vs = os1 := by
          funext j
          cases hj : wipeO os5 vs j with
          | none =>
            cases hj1 : os1 j with
            | none => rfl
            | some a =>
              have hj2 : wipeO os1 vs j = some a := by rw [offs]; exact hj1
              have hjn : j ∉ vs := by unfold wipeO at hj2; split at hj2; cases hj2; assumption
              obtain ⟨_, _, ds', q⟩ := r2.dis j a hj1
              obtain ⟨b, ys, q1, _⟩ := r6.ow j ds' q
              rw [hj] at q1; cases q1
          | some a =>
            have hjn : j ∉ vs := by
              intro z; unfold wipeO at hj; rw [if_pos z] at hj; cases hj
            obtain ⟨_, _, ds', q⟩ := r6.dis j a hj
            obtain ⟨b, ys, q1, q2, _⟩ := r2.ow j ds' q
            obtain ⟨c, zs, p1, p2, _⟩ := r6.ow j ds' q
            rw [q2] at p2; cases p2
            rw [hj] at p1; cases p1
            exact q1.symm
        rw [ho] at r6
        refine ⟨r6, fun a z => z.imp id fun ⟨j, h⟩ => ⟨j, ?_⟩⟩
        rw [← ho] at h
        unfold wipeO at h
        split at h
        · cases h
        · exact h
      have nD : ∀ {Zw5 : AS1} {os5 : Nat → Option Addr} {e5 : En} {w5 : W} {σ5 : L2.St} {H5 : Hp}, Rl M K (fun a => Zf a ∨ a = D) Zw5 os5 e5 w5 σ5 H5 → ¬ Zm Zw5 os5 D := by
        rintro Zw5 os5 e5 w5 σ5 H5 r5 (z | ⟨j, z⟩)
        · exact r5.fw D (.inr rfl) z
        · exact (r5.dis j D z).1 (.inr rfl)
      refine lt.run r4 xo4 q4 fun b e5 w5 H5 Zw5 os5 r5 x5 q5 => ?_
      have x45 := (Gr.ext gr).trans (x4.trans x5)
      cases b with
      | true =>
        refine (if_pos rfl).mpr (la.run r5 (xo4.ext x5) ((if_pos rfl).mp q5) fun d6 e6 w6 v6 H6 Zw6 os6 r6 x6 p6 q6 => ?_)
        obtain ⟨he, q6⟩ := q6
        obtain ⟨r7, sub⟩ := endTurn r6 he
        have x46 := x45.trans x6
        have hD6 : H6 D = some (.lst xs) := x46.keep _ _ hDx (nD r2)
        have ra6 : Rps K (Zt (fun a => Zf a ∨ a = D) Zw6 os6) H6 acc xs := Rps.ext x46 racc
        have y6 : Ext (Zm Zw1 os1) (Zm Zw6 os1) H1 H6 := (x2.trans x46).less sub
        have lx := rps_len racc
        refine ⟨xs, hD6, sz_lt (by omega), w6, Zw6, acc ++ [d6], xs ++ [v6], ?_, ?_, upd_same, ?_, q6, by rw [List.length_append]; simp; omega⟩
        · -- D is put
          have yy : Ext (fun a => a = D) (fun a => a = D) H6 (upd H6 D (.lst (xs ++ [v6]))) := ⟨fun b o q n => by rw [upd_ne n]; exact q, fun b ys q => by rw [upd_ne (fun z => by subst z; rw [hD6] at q; cases q)]; exact q, fun b o q => by
            by_cases z : b = D
            · subst z; exact ⟨_, upd_same⟩
            · exact ⟨o, by rw [upd_ne z]; exact q⟩, fun b z => .inl z⟩
          have up : ∀ {d v}, Rp K (Zt (fun a => Zf a ∨ a = D) Zw6 os1) H6 d v → Rp K (Zt (fun a => Zf a ∨ a = D) Zw6 os1) (upd H6 D (.lst (xs ++ [v6]))) d v := fun h => (Rp.ext (Zf := Zt (fun a => Zf a ∨ a = D) Zw6 os1) yy (h.less fun a z => z.elim id fun z => .inl (.inr z))).less fun a z => .inl z
          have ups : ∀ {d v}, Rps K (Zt (fun a => Zf a ∨ a = D) Zw6 os1) H6 d v → Rps K (Zt (fun a => Zf a ∨ a = D) Zw6 os1) (upd H6 D (.lst (xs ++ [v6]))) d v := fun h => (Rps.ext (Zf := Zt (fun a => Zf a ∨ a = D) Zw6 os1) yy (h.less fun a z => z.elim id fun z => .inl (.inr z))).less fun a z => .inl z
          exact {
            va := fun i d h => let ⟨v, h1, h2⟩ := r7.va i d h; ⟨v, h1, up h2⟩
            ow := fun i ds h => let ⟨a, ys, h1, h2, h3, h4⟩ := r7.ow i ds h; ⟨a, ys, h1, h2, by rw [upd_ne (fun z => (r7.dis i a h1).1 (.inr z))]; exact h3, ups h4⟩
            len := r7.len
            inj := r7.inj
            dis := r7.dis
            fw := r7.fw
            fl := fun a z => let ⟨o, h⟩ := r7.fl a z; yy.live a o h
            m := M.keep _ _ _ _ r7.m (fun b z => upd_ne fun q => by subst q; exact r7.fw _ (.inr rfl) z) yy.tup }
        · exact ⟨fun b o q n => by rw [upd_ne (ne_of_none q hD)]; exact y6.keep b o q n, fun b ys q => by rw [upd_ne (ne_of_none q hD)]; exact y6.tup b ys q, fun b o q => by rw [upd_ne (ne_of_none q hD)]; exact y6.live b o q, y6.sub⟩
        · have yy : Ext (fun a => a = D) (fun a => a = D) H6 (upd H6 D (.lst (xs ++ [v6]))) := ⟨fun b o q n => by rw [upd_ne n]; exact q, fun b ys q => by rw [upd_ne (fun z => by subst z; rw [hD6] at q; cases q)]; exact q, fun b o q => by
            by_cases z : b = D
            · subst z; exact ⟨_, upd_same⟩
            · exact ⟨o, by rw [upd_ne z]; exact q⟩, fun b z => .inl z⟩
          have ra7 : Rps K (Zt (fun a => Zf a ∨ a = D) Zw6 os1) H6 (acc ++ [d6]) (xs ++ [v6]) := rps_append (ra6.less fun a z => z.imp id (sub a)) (rps_cons (p6.less fun a z => z.imp id (sub a)) rps_nil)
          exact (Rps.ext (Zf := Zt (fun a => Zf a ∨ a = D) Zw6 os1) yy (ra7.less fun a z => z.elim id fun z => .inl (.inr z))).less fun a z => .inl z
      | false =>
        have q5 := (if_neg Bool.false_ne_true).mp q5
        obtain ⟨he, q5⟩ := q5
        obtain ⟨r7, sub⟩ := endTurn r5 he
        have hD5 : H5 D = some (.lst xs) := x45.keep _ _ hDx (nD r2)
        have ra5 : Rps K (Zt (fun a => Zf a ∨ a = D) Zw5 os5) H5 acc xs := Rps.ext x45 racc
        exact (if_neg Bool.false_ne_true).mpr ⟨w5, Zw5, acc, xs, r7, (x2.trans x45).less sub, hD5, ra5.less fun a z => z.imp id (sub a), q5, by omega⟩
    · have e0 : i = ds.length := by omega
      subst e0
      refine .inl ⟨itr.2, ?_⟩
      have nD : ¬ Zm Zw' os1 D := by
        rintro (z | ⟨j, z⟩)
        · exact r2.fw D (.inr rfl) z
        · exact (r2.dis j D z).1 (.inr rfl)
      have nf : ¬ Zf D := fun z => by obtain ⟨o, h⟩ := r1.fl D z; rw [hD] at h; cases h
      refine k _ _ _ _ _ _ _ ?_ (x1.trans x2) (mk_lst hDx (fun z => z.elim nf nD) (racc.less fun a z => z.imp .inl id)) (fin acc w' hi ha)
      exact {
        va := fun i d h => let ⟨v, h1, h2⟩ := r1.va i d h; ⟨v, h1, Rp.ext x2 h2⟩
        ow := fun i ds h => by
          have hn : i ∉ vs := fun z => hno i z ds h
          obtain ⟨a, ys, h1, h2, h3, h4⟩ := r2.ow i ds (by rw [wipeE_out hn]; exact h)
          exact ⟨a, ys, h1, by rw [wipe_out hn] at h2; exact h2, h3, h4.less fun a z => z.imp .inl id⟩
        len := r1.len
        inj := r2.inj
        dis := fun i a h => ⟨fun z => (r2.dis i a h).1 (.inl z), (r2.dis i a h).2.1, (r1.dis i a h).2.2⟩
        fw := fun a z => r2.fw a (.inl z)
        fl := fun a z => r2.fl a (.inl z)
        m := r2.m }⟩
end
end RS
set_option Elab.async false
set_option linter.all false
set_option maxRecDepth 100000
set_option maxHeartbeats 4000000
/-! Dv: the values' rules over data; calls; a def from its reading over data. -/
namespace RS
open PySem L2
section
variable {K : PySem.W.Frag} {Z : AS1} {H : Hp}
/-! ints -/
def adI (C : Int → Int → Prop) (g : Int → Int → PD) : PD → PD → (PD → Prop) → Prop
  | .int i, .int j, P => SzC (C i j) ∧ P (g i j)
  | _, _, _ => False
def adI0 (g : Int → Int → PD) : PD → PD → (PD → Prop) → Prop
  | .int i, .int j, P => P (g i j)
  | _, _, _ => False
theorem lr_I {C : Int → Int → Prop} {g : Int → Int → PD} {g' : Int → Int → V} (hg : ∀ i j (Z : AS1) (H : Hp), Rp K Z H (g i j) (g' i j)) : LR2 K (rI C g') (adI C g) := ⟨fun {Z H dx dy x y P R} lv px py h k => by
  unfold adI at h
  split at h
  · obtain rfl := rp_int px
    obtain rfl := rp_int py
    exact ⟨_, _, rfl, rfl, h.1, k _ _ _ (Gr.refl _ _) (hg _ _ _ _) h.2⟩
  · exact h.elim⟩
theorem lr_I0 {g : Int → Int → PD} {g' : Int → Int → V} (hg : ∀ i j (Z : AS1) (H : Hp), Rp K Z H (g i j) (g' i j)) : LR2 K (rI0 g') (adI0 g) := ⟨fun {Z H dx dy x y P R} lv px py h k => by
  unfold adI0 at h
  split at h
  · obtain rfl := rp_int px
    obtain rfl := rp_int py
    exact ⟨_, _, rfl, rfl, k _ _ _ (Gr.refl _ _) (hg _ _ _ _) h⟩
  · exact h.elim⟩
instance : LR2 K (rI0 fun i j => .int (i - j)) (adI0 fun i j => .int (i - j)) := lr_I0 fun _ _ _ _ => mk_int
instance : LR2 K (rI0 fun i j => .bl (decide (i < j))) (adI0 fun i j => .bl (decide (i < j))) := lr_I0 fun _ _ _ _ => mk_bl
instance : LR2 K (rI0 fun i j => .bl (decide (j < i))) (adI0 fun i j => .bl (decide (j < i))) := lr_I0 fun _ _ _ _ => mk_bl
instance : LR2 K (rI0 fun i j => .bl (decide (j ≤ i))) (adI0 fun i j => .bl (decide (j ≤ i))) := lr_I0 fun _ _ _ _ => mk_bl
instance : LR2 K (rI (fun _ j => 0 < j) fun i j => .int (i % j)) (adI (fun _ j => 0 < j) fun i j => .int (i % j)) := lr_I fun _ _ _ _ => mk_int
instance : LR2 K (rI CDiv fun i j => .int (i / j)) (adI CDiv fun i j => .int (i / j)) := lr_I fun _ _ _ _ => mk_int
instance : LR2 K (rI CPow fun i j => .int (i ^ j.toNat)) (adI CPow fun i j => .int (i ^ j.toNat)) := lr_I fun _ _ _ _ => mk_int
instance : LR2 K (rI (fun _ j => 0 ≤ j) fun i j => .int (i / 2 ^ j.toNat)) (adI (fun _ j => 0 ≤ j) fun i j => .int (i / 2 ^ j.toNat)) := lr_I fun _ _ _ _ => mk_int
def adU (g : Int → PD) : PD → (PD → Prop) → Prop
  | .int i, P => P (g i)
  | _, _ => False
instance : LR1 K (rU fun i => .int (-i)) (adU fun i => .int (-i)) := ⟨fun {Z H dx x P R} lv px h k => by
  unfold adU at h
  split at h
  · obtain rfl := rp_int px
    exact ⟨_, rfl, k _ _ _ (Gr.refl _ _) mk_int h⟩
  · exact h.elim⟩
/-! + -/
def adAdd : PD → PD → (PD → Prop) → Prop
  | .int i, .int j, P => P (.int (i + j))
  | .int i, .bl b, P => P (.int (i + PyProof.Rows.b2i b))
  | .str a, .str b, P => SzC (a.length + b.length ≤ 16777216) ∧ P (.str (a ++ b))
  | .lst a, .lst b, P => SzC (a.length + b.length ≤ 16777216) ∧ P (.lst (a ++ b))
  | .tup a, .tup b, P => SzC (a ≠ [] ∧ a.length + b.length ≤ 16777216) ∧ P (.tup (a ++ b))
  | _, _, _ => False
instance : LR2 K (rAddA K) adAdd := ⟨fun {Z H dx dy x y P R} lv px py h k => by
  unfold adAdd at h
  split at h
  · obtain rfl := rp_int px
    obtain rfl := rp_int py
    exact k _ _ _ (Gr.refl _ _) mk_int h
  · obtain rfl := rp_int px
    obtain rfl := rp_bl py
    exact k _ _ _ (Gr.refl _ _) mk_int h
  · obtain rfl := rp_str px
    obtain rfl := rp_str py
    exact w_addS h.1 (k _ _ _ (Gr.refl _ _) mk_str h.2)
  · obtain ⟨a, xs, rfl, na, ha, ra⟩ := rp_lst px
    obtain ⟨b, ys, rfl, nb, hb, rb⟩ := rp_lst py
    exact w_addL ha hb (by have := h.1; unfold SzC at this; rw [rps_len ra, rps_len rb]; exact this) fun p H' g hp e => k _ _ _ g (mk_lst e (new_not lv hp) ((rps_append ra rb).gr g)) h.2
  · obtain ⟨a, xs, rfl, ha, ra⟩ := rp_tup px
    obtain ⟨b, ys, rfl, hb, rb⟩ := rp_tup py
    obtain ⟨⟨hne, hz⟩, h2⟩ := h
    refine Or.inr ⟨a, b, xs, ys, rfl, rfl, ha.sqT, hb.sqT, ?_, sz_of (by rw [rps_len ra, rps_len rb]; exact hz), fun e => ?_, fun e => ?_⟩
    · rintro rfl; exact hne (List.eq_nil_of_length_eq_zero (by rw [← rps_len ra]; rfl))
    · subst e
      have : ∀ {ds : List PD}, Rps K Z H ds [] → ds = [] := fun {ds} h => List.eq_nil_of_length_eq_zero (by rw [← rps_len h]; rfl)
      rw [this rb, List.append_nil] at h2
      exact k _ _ _ (Gr.refl _ _) px h2
    · exact new_obj fun p H' g hp e => k _ _ _ g (mk_tup e ((rps_append ra rb).gr g)) h2
  · exact h.elim⟩
/-! * -/
def adMul : PD → PD → (PD → Prop) → Prop
  | .int i, .int j, P => SzC (CMul i j) ∧ P (.int (i * j))
  | .str a, .int n, P => SzC (a.length ≤ 10 ∧ -10 ≤ n ∧ n ≤ 1000) ∧ P (.str (PySem.Txt.mul a n))
  | _, _, _ => False
instance : LR2 K rMulA adMul := ⟨fun {Z H dx dy x y P R} lv px py h k => by
  unfold adMul at h
  split at h
  · obtain rfl := rp_int px
    obtain rfl := rp_int py
    exact w_mulI h.1 (k _ _ _ (Gr.refl _ _) mk_int h.2)
  · obtain rfl := rp_str px
    obtain rfl := rp_int py
    exact w_mulS h.1.1 h.1.2 (k _ _ _ (Gr.refl _ _) mk_str h.2)
  · exact h.elim⟩
/-! ==, != -/
mutual
def toPy : PD → Option PyData
  | .non => some .none
  | .bl b => some (.bool b)
  | .int i => some (.int i)
  | .str s => some (.str s)
  | .tup ds => (toPys ds).map .tuple
  | .lst ds => (toPys ds).map .list
  | .ref _ => none
  | .ty _ => none
  | .ro _ => none
def toPys : List PD → Option (List PyData)
  | [] => some []
  | d :: ds => match toPy d, toPys ds with
    | some a, some b => some (a :: b)
    | _, _ => none
end
mutual
theorem dp_of {K : PySem.W.Frag} {Z : AS1} {H : Hp} : ∀ {d : PD} {v : V} {p : PyData}, Rp K Z H d v → toPy d = some p → Dp K H v p
  | .non, v, p, h, e => by unfold toPy at e; cases e; rw [rp_non h]; exact .non
  | .bl b, v, p, h, e => by unfold toPy at e; cases e; rw [rp_bl h]; exact .bl b
  | .int b, v, p, h, e => by unfold toPy at e; cases e; rw [rp_int h]; exact .int b
  | .str b, v, p, h, e => by unfold toPy at e; cases e; rw [rp_str h]; exact .str b
  | .ref _, v, p, h, e => by unfold toPy at e; cases e
  | .ty _, v, p, h, e => by unfold toPy at e; cases e
  | .ro _, v, p, h, e => by unfold toPy at e; cases e
  | .tup ds, v, p, h, e => by
    unfold toPy at e
    obtain ⟨q, hq, rfl⟩ := Option.map_eq_some_iff.mp e
    obtain ⟨a, xs, rfl, ha, ra⟩ := rp_tup h
    exact .tup ha.sqT (dps_of ra hq)
  | .lst ds, v, p, h, e => by
    unfold toPy at e
    obtain ⟨q, hq, rfl⟩ := Option.map_eq_some_iff.mp e
    obtain ⟨a, xs, rfl, na, ha, ra⟩ := rp_lst h
    exact .lst (SqL.of ha) (dps_of ra hq)
theorem dps_of {K : PySem.W.Frag} {Z : AS1} {H : Hp} : ∀ {d : List PD} {v : List V} {p : List PyData}, Rps K Z H d v → toPys d = some p → DpAll K H v p
  | [], v, p, h, e => by unfold toPys at e; cases e; rw [rps_nil' h]; exact .nil
  | d :: ds, v, p, h, e => by
    obtain ⟨x, r, rfl, h1, h2⟩ := rps_cons' h
    unfold toPys at e
    split at e
    · rename_i a b ha hb
      cases e
      exact .cons (dp_of h1 ha) (dps_of h2 hb)
    · cases e
end
def scalD : PD → PD → Bool
  | .non, .non => true | .non, .int _ => true | .non, .str _ => true
  | .int _, .non => true | .int _, .int _ => true | .int _, .str _ => true
  | .str _, .non => true | .str _, .int _ => true | .str _, .str _ => true
  | .bl _, .bl _ => true
  | _, _ => false
/-- == of data (texts of proper signs) -/
def eqD (x y : PD) : Bool := match toPy x, toPy y with
  | some a, some b => PyData.eqv a b
  | _, _ => false
def okEq (x : PD) : Prop := ∃ p, toPy x = some p ∧ SeqAt.shaped p = true
def adEq : PD → PD → (PD → Prop) → Prop := fun x y P => (scalD x y = true ∨ (okEq x ∧ okEq y)) ∧ P (.bl (eqD x y))
def adNe : PD → PD → (PD → Prop) → Prop := fun x y P => (scalD x y = true ∨ (okEq x ∧ okEq y)) ∧ P (.bl (!eqD x y))
theorem scal_of {dx dy : PD} {x y : V} (px : Rp K Z H dx x) (py : Rp K Z H dy y) (h : scalD dx dy = true) : scal x y = true ∧ decide (x = y) = eqD dx dy := by
  unfold scalD at h
  split at h <;> first | (cases h; done) | skip
  · obtain rfl := rp_non px; obtain rfl := rp_non py; exact ⟨rfl, rfl⟩
  · obtain rfl := rp_non px; obtain rfl := rp_int py; exact ⟨rfl, rfl⟩
  · obtain rfl := rp_non px; obtain rfl := rp_str py; exact ⟨rfl, rfl⟩
  · obtain rfl := rp_int px; obtain rfl := rp_non py; exact ⟨rfl, rfl⟩
  · obtain rfl := rp_int px; obtain rfl := rp_int py; refine ⟨rfl, ?_⟩; simp [eqD, toPy, PyData.eqv]; rw [Bool.eq_iff_iff]; simp
  · obtain rfl := rp_int px; obtain rfl := rp_str py; exact ⟨rfl, rfl⟩
  · obtain rfl := rp_str px; obtain rfl := rp_non py; exact ⟨rfl, rfl⟩
  · obtain rfl := rp_str px; obtain rfl := rp_int py; exact ⟨rfl, rfl⟩
  · obtain rfl := rp_str px; obtain rfl := rp_str py; refine ⟨rfl, ?_⟩; simp [eqD, toPy, PyData.eqv]; rw [Bool.eq_iff_iff]; simp
  · obtain rfl := rp_bl px; obtain rfl := rp_bl py; refine ⟨rfl, ?_⟩; simp [eqD, toPy, PyData.eqv]; rw [Bool.eq_iff_iff]; simp
theorem eqD_of {dx dy : PD} {p q : PyData} (h : toPy dx = some p) (h' : toPy dy = some q) : PyData.eqv p q = eqD dx dy := by unfold eqD; rw [h, h']
instance : LR2 K (rEqA K) adEq := ⟨fun {Z H dx dy x y P R} lv px py h k => by
  obtain ⟨h1 | ⟨⟨p, hp, sp⟩, q, hq, sq⟩, h2⟩ := h
  · obtain ⟨s1, s2⟩ := scal_of px py h1
    exact Or.inl ⟨s1, k _ _ _ (Gr.refl _ _) (by rw [s2]; exact mk_bl) h2⟩
  · exact Or.inr ⟨p, q, dp_of px hp, dp_of py hq, sp, sq, k _ _ _ (Gr.refl _ _) (by rw [eqD_of hp hq]; exact mk_bl) h2⟩⟩
instance : LR2 K (rNeA K) adNe := ⟨fun {Z H dx dy x y P R} lv px py h k => by
  obtain ⟨h1 | ⟨⟨p, hp, sp⟩, q, hq, sq⟩, h2⟩ := h
  · obtain ⟨s1, s2⟩ := scal_of px py h1
    exact Or.inl ⟨s1, k _ _ _ (Gr.refl _ _) (by rw [s2]; exact mk_bl) h2⟩
  · exact Or.inr ⟨p, q, dp_of px hp, dp_of py hq, sp, sq, k _ _ _ (Gr.refl _ _) (by rw [eqD_of hp hq]; exact mk_bl) h2⟩⟩
/-! <= -/
def adLe : PD → PD → (PD → Prop) → Prop
  | .int i, .int j, P => P (.bl (decide (i ≤ j)))
  | .str i, .str j, P => P (.bl (!decide (j.cps.toList < i.cps.toList)))
  | _, _, _ => False
instance : LR2 K rLeA adLe := ⟨fun {Z H dx dy x y P R} lv px py h k => by
  unfold adLe at h
  split at h
  · obtain rfl := rp_int px
    obtain rfl := rp_int py
    exact w_leI (k _ _ _ (Gr.refl _ _) mk_bl h)
  · obtain rfl := rp_str px
    obtain rfl := rp_str py
    exact w_leS (k _ _ _ (Gr.refl _ _) mk_bl h)
  · exact h.elim⟩
/-! in -/
def vOf : PD → V
  | .bl b => .bl b
  | .int i => .int i
  | .str s => .str s
  | _ => .non
def flatD : PD → Bool
  | .non => true | .bl _ => true | .int _ => true | .str _ => true
  | _ => false
def inD (d : PD) (ds : List PD) : Bool := inV (vOf d) (ds.map vOf)
theorem flat_v {d : PD} {v : V} (h : Rp K Z H d v) (f : flatD d = true) : v = vOf d ∧ flatV v = true := by
  cases d with
  | non => rw [rp_non h]; exact ⟨rfl, rfl⟩
  | bl b => rw [rp_bl h]; exact ⟨rfl, rfl⟩
  | int b => rw [rp_int h]; exact ⟨rfl, rfl⟩
  | str b => rw [rp_str h]; exact ⟨rfl, rfl⟩
  | _ => exact absurd f Bool.false_ne_true
theorem flats_v : ∀ {ds : List PD} {vs : List V}, Rps K Z H ds vs → ds.all flatD = true → vs = ds.map vOf ∧ vs.all flatV = true
  | [], _, h, _ => by rw [rps_nil' h]; exact ⟨rfl, rfl⟩
  | d :: ds, vs, h, f => by
    obtain ⟨x, r, rfl, h1, h2⟩ := rps_cons' h
    rw [List.all_cons, Bool.and_eq_true] at f
    obtain ⟨e1, g1⟩ := flat_v h1 f.1
    obtain ⟨e2, g2⟩ := flats_v h2 f.2
    exact ⟨by rw [e1, e2]; rfl, by rw [List.all_cons, g1, g2]; rfl⟩
def adInG (neg : Bool) : PD → PD → (PD → Prop) → Prop
  | .str z, .str t, P => ∃ c, z = ⟨#[c]⟩ ∧ P (.bl (if neg then !decide (c ∈ t.cps.toList) else decide (c ∈ t.cps.toList)))
  | d, .lst ds, P => SzC (flatD d = true ∧ ds.all flatD = true) ∧ P (.bl (if neg then !inD d ds else inD d ds))
  | d, .tup ds, P => SzC (flatD d = true ∧ ds.all flatD = true) ∧ P (.bl (if neg then !inD d ds else inD d ds))
  | _, _, _ => False
instance : LR2 K (rInA K) (adInG false) := ⟨fun {Z H dx dy x y P R} lv px py h k => by
  unfold adInG at h
  split at h
  · obtain rfl := rp_str px
    obtain rfl := rp_str py
    obtain ⟨c, rfl, h⟩ := h
    exact w_inS (k _ _ _ (Gr.refl _ _) mk_bl h)
  · obtain ⟨a, xs, rfl, na, ha, ra⟩ := rp_lst py
    obtain ⟨⟨f1, f2⟩, h⟩ := h
    obtain ⟨e1, g1⟩ := flat_v px f1
    obtain ⟨e2, g2⟩ := flats_v ra f2
    subst e1 e2
    exact w_inQ (.inl (SqL.of ha)) g1 g2 (k _ _ _ (Gr.refl _ _) mk_bl h)
  · obtain ⟨a, xs, rfl, ha, ra⟩ := rp_tup py
    obtain ⟨⟨f1, f2⟩, h⟩ := h
    obtain ⟨e1, g1⟩ := flat_v px f1
    obtain ⟨e2, g2⟩ := flats_v ra f2
    subst e1 e2
    exact w_inQ (.inr ha.sqT) g1 g2 (k _ _ _ (Gr.refl _ _) mk_bl h)
  · exact h.elim⟩
instance : LR2 K (rNinA K) (adInG true) := ⟨fun {Z H dx dy x y P R} lv px py h k => by
  unfold adInG at h
  split at h
  · obtain rfl := rp_str px
    obtain rfl := rp_str py
    obtain ⟨c, rfl, h⟩ := h
    exact w_ninS (k _ _ _ (Gr.refl _ _) mk_bl h)
  · obtain ⟨a, xs, rfl, na, ha, ra⟩ := rp_lst py
    obtain ⟨⟨f1, f2⟩, h⟩ := h
    obtain ⟨e1, g1⟩ := flat_v px f1
    obtain ⟨e2, g2⟩ := flats_v ra f2
    subst e1 e2
    exact w_ninQ (.inl (SqL.of ha)) g1 g2 (k _ _ _ (Gr.refl _ _) mk_bl h)
  · obtain ⟨a, xs, rfl, ha, ra⟩ := rp_tup py
    obtain ⟨⟨f1, f2⟩, h⟩ := h
    obtain ⟨e1, g1⟩ := flat_v px f1
    obtain ⟨e2, g2⟩ := flats_v ra f2
    subst e1 e2
    exact w_ninQ (.inr ha.sqT) g1 g2 (k _ _ _ (Gr.refl _ _) mk_bl h)
  · exact h.elim⟩
/-! x[i], x[i:j] -/
def adIx : PD → PD → (PD → Prop) → Prop
  | .lst ds, .int k, P => ∃ c, atI ds k = some c ∧ P c
  | .tup ds, .int k, P => ∃ c, atI ds k = some c ∧ P c
  | .str z, .int k, P => SzC (z.length ≤ 16777216) ∧ ∃ c, atI z.cps.toList k = some c ∧ P (.str ⟨#[c]⟩)
  | _, _, _ => False
instance : LR2 K (rIxA K) adIx := ⟨fun {Z H dx dy x y P R} lv px py h k => by
  unfold adIx at h
  split at h
  · obtain rfl := rp_int py
    obtain ⟨a, xs, rfl, na, ha, ra⟩ := rp_lst px
    obtain ⟨c, hc, h⟩ := h
    obtain ⟨v, hv, rv⟩ := atI_rps ra hc
    exact w_ixL (SqL.of ha) hv (k _ _ _ (Gr.refl _ _) rv h)
  · obtain rfl := rp_int py
    obtain ⟨a, xs, rfl, ha, ra⟩ := rp_tup px
    obtain ⟨c, hc, h⟩ := h
    obtain ⟨v, hv, rv⟩ := atI_rps ra hc
    exact w_ixT ha.sqT hv (k _ _ _ (Gr.refl _ _) rv h)
  · obtain rfl := rp_int py
    obtain rfl := rp_str px
    obtain ⟨hz, c, hc, h⟩ := h
    exact w_ixS hz hc (k _ _ _ (Gr.refl _ _) mk_str h)
  · exact h.elim⟩
def cutD (xs : List PD) (lo hi : Option Int) : List PD := (xs.drop (HT.sIx xs.length 0 lo)).take (HT.sIx xs.length xs.length hi - HT.sIx xs.length 0 lo)
theorem rps_cut {ds : List PD} {xs : List V} {lo hi : Option Int} (h : Rps K Z H ds xs) : Rps K Z H (cutD ds lo hi) (cutV xs lo hi) := by
  unfold cutD cutV
  rw [rps_len h]
  exact rps_take _ (rps_drop _ h)
def adSl : PD → Option Int → Option Int → (PD → Prop) → Prop
  | .str z, lo, hi, P => SzC (z.length ≤ 16777216) ∧ P (.str (cutS z lo hi))
  | .lst ds, lo, hi, P => P (.lst (cutD ds lo hi))
  | .tup ds, lo, hi, P => SzC (¬ (HT.sIx ds.length 0 lo = 0 ∧ HT.sIx ds.length ds.length hi = ds.length)) ∧ P (.tup (cutD ds lo hi))
  | _, _, _, _ => False
instance : LRs K (rSlA K) adSl := ⟨fun {Z H dx lo hi x P R} lv px h k => by
  unfold adSl at h
  split at h
  · obtain rfl := rp_str px
    exact w_slS h.1 (k _ _ _ (Gr.refl _ _) mk_str h.2)
  · obtain ⟨a, xs, rfl, na, ha, ra⟩ := rp_lst px
    exact w_slL (SqL.of ha) fun p H' g hp e => k _ _ _ g (mk_lst e (new_not lv hp) ((rps_cut ra).gr g)) h
  · obtain ⟨a, xs, rfl, ha, ra⟩ := rp_tup px
    exact Or.inr (Or.inr ⟨a, xs, rfl, ha.sqT, by rw [rps_len ra]; exact h.1, new_obj fun p H' g hp e => k _ _ _ g (mk_tup e ((rps_cut ra).gr g)) h.2⟩)
  · exact h.elim⟩
/-! built-ins -/
def abLen : List PD → (PD → Prop) → Prop
  | [.lst ds], P => P (.int ds.length)
  | [.ro ds], P => P (.int ds.length)
  | [.tup ds], P => P (.int ds.length)
  | [.str z], P => SzC (z.length ≤ 16777216) ∧ P (.int z.length)
  | _, _ => False
theorem rps_one {d : PD} {xs : List V} (h : Rps K Z H [d] xs) : ∃ v, xs = [v] ∧ Rp K Z H d v := by
  obtain ⟨v, r, rfl, h1, h2⟩ := rps_cons' h
  rw [rps_nil' h2]; exact ⟨v, rfl, h1⟩
theorem rps_two {d d' : PD} {xs : List V} (h : Rps K Z H [d, d'] xs) : ∃ v u, xs = [v, u] ∧ Rp K Z H d v ∧ Rp K Z H d' u := by
  obtain ⟨v, r, rfl, h1, h2⟩ := rps_cons' h
  obtain ⟨u, rfl, h3⟩ := rps_one h2
  exact ⟨v, u, rfl, h1, h3⟩
instance : LRn K (rLenA K) abLen := ⟨fun {Z H dx x P R} lv px h k => by
  unfold abLen at h
  split at h
  · obtain ⟨v, rfl, p⟩ := rps_one px
    obtain ⟨a, xs, rfl, na, ha, ra⟩ := rp_lst p
    exact w_lenL (SqL.of ha) (k _ _ _ (Gr.refl _ _) (by rw [rps_len ra]; exact mk_int) h)
  · obtain ⟨v, rfl, p⟩ := rps_one px
    obtain ⟨a, xs, rfl, ha, ra⟩ := rp_ro p
    exact w_lenL ha.sqL (k _ _ _ (Gr.refl _ _) (by rw [rps_len ra]; exact mk_int) h)
  · obtain ⟨v, rfl, p⟩ := rps_one px
    obtain ⟨a, xs, rfl, ha, ra⟩ := rp_tup p
    exact w_lenT ha.sqT (k _ _ _ (Gr.refl _ _) (by rw [rps_len ra]; exact mk_int) h)
  · obtain ⟨v, rfl, p⟩ := rps_one px
    obtain rfl := rp_str p
    exact w_lenS h.1 (k _ _ _ (Gr.refl _ _) mk_int h.2)
  · exact h.elim⟩
def abAll : List PD → (PD → Prop) → Prop := fun ds P => ∃ bs : List Bool, ds = [.lst (bs.map .bl)] ∧ P (.bl (bs.all id))
def abAny : List PD → (PD → Prop) → Prop := fun ds P => ∃ bs : List Bool, ds = [.lst (bs.map .bl)] ∧ P (.bl (bs.any id))
def abSum : List PD → (PD → Prop) → Prop := fun ds P => ∃ bs : List Int, ds = [.lst (bs.map .int)] ∧ P (.int bs.sum)
instance : LRn K (rAll K) abAll := ⟨fun {Z H dx x P R} lv px h k => by
  obtain ⟨bs, rfl, h⟩ := h
  obtain ⟨v, rfl, p⟩ := rps_one px
  obtain ⟨a, xs, rfl, na, ha, ra⟩ := rp_lst p
  obtain rfl := rps_bls' ra
  exact w_all (SqL.of ha) (k _ _ _ (Gr.refl _ _) mk_bl h)⟩
instance : LRn K (rAny K) abAny := ⟨fun {Z H dx x P R} lv px h k => by
  obtain ⟨bs, rfl, h⟩ := h
  obtain ⟨v, rfl, p⟩ := rps_one px
  obtain ⟨a, xs, rfl, na, ha, ra⟩ := rp_lst p
  obtain rfl := rps_bls' ra
  exact w_any (SqL.of ha) (k _ _ _ (Gr.refl _ _) mk_bl h)⟩
instance : LRn K (rSum K) abSum := ⟨fun {Z H dx x P R} lv px h k => by
  obtain ⟨bs, rfl, h⟩ := h
  obtain ⟨v, rfl, p⟩ := rps_one px
  obtain ⟨a, xs, rfl, na, ha, ra⟩ := rp_lst p
  obtain rfl := rps_ints' ra
  exact ⟨a, bs, rfl, SqL.of ha, k _ _ _ (Gr.refl _ _) mk_int h⟩⟩
def abAbs : List PD → (PD → Prop) → Prop
  | [.int i], P => P (.int (if i < 0 then -i else i))
  | _, _ => False
instance : LRn K rAbs abAbs := ⟨fun {Z H dx x P R} lv px h k => by
  unfold abAbs at h
  split at h
  · obtain ⟨v, rfl, p⟩ := rps_one px
    obtain rfl := rp_int p
    exact w_abs (k _ _ _ (Gr.refl _ _) mk_int h)
  · exact h.elim⟩
def abMax : List PD → (PD → Prop) → Prop
  | [.int i, .int j], P => P (.int (if j > i then j else i))
  | _, _ => False
def abMin : List PD → (PD → Prop) → Prop
  | [.int i, .int j], P => P (.int (if j < i then j else i))
  | _, _ => False
instance : LRn K rMaxA abMax := ⟨fun {Z H dx x P R} lv px h k => by
  unfold abMax at h
  split at h
  · obtain ⟨v, u, rfl, p, q⟩ := rps_two px
    obtain rfl := rp_int p
    obtain rfl := rp_int q
    exact w_max2 (k _ _ _ (Gr.refl _ _) mk_int h)
  · exact h.elim⟩
instance : LRn K rMinA abMin := ⟨fun {Z H dx x P R} lv px h k => by
  unfold abMin at h
  split at h
  · obtain ⟨v, u, rfl, p, q⟩ := rps_two px
    obtain rfl := rp_int p
    obtain rfl := rp_int q
    exact w_min2 (k _ _ _ (Gr.refl _ _) mk_int h)
  · exact h.elim⟩
def abInt : List PD → (PD → Prop) → Prop
  | [.int i], P => P (.int i)
  | [.bl b], P => P (.int (if b then 1 else 0))
  | [.str a], P => ∃ n, PySem.intText? a = some n ∧ SzC (a.length ≤ 640) ∧ P (.int n)
  | _, _ => False
instance : LRn K rIntA abInt := ⟨fun {Z H dx x P R} lv px h k => by
  unfold abInt at h
  split at h
  · obtain ⟨v, rfl, p⟩ := rps_one px
    obtain rfl := rp_int p
    exact w_intI (k _ _ _ (Gr.refl _ _) mk_int h)
  · obtain ⟨v, rfl, p⟩ := rps_one px
    obtain rfl := rp_bl p
    exact w_intB (k _ _ _ (Gr.refl _ _) mk_int h)
  · obtain ⟨v, rfl, p⟩ := rps_one px
    obtain rfl := rp_str p
    obtain ⟨n, h1, h2, h⟩ := h
    exact w_intS h1 h2 (k _ _ _ (Gr.refl _ _) mk_int h)
  · exact h.elim⟩
def abStr : List PD → (PD → Prop) → Prop
  | [.int i], P => SzC (i.natAbs.log2 < 1920) ∧ P (.str (toString i))
  | _, _ => False
instance : LRn K rStrI abStr := ⟨fun {Z H dx x P R} lv px h k => by
  unfold abStr at h
  split at h
  · obtain ⟨v, rfl, p⟩ := rps_one px
    obtain rfl := rp_int p
    exact w_strI h.1 (k _ _ _ (Gr.refl _ _) mk_str h.2)
  · exact h.elim⟩
def abList : List PD → (PD → Prop) → Prop
  | [.lst ds], P => P (.lst ds)
  | [.tup ds], P => P (.lst ds)
  | _, _ => False
instance : LRn K (rListA K) abList := ⟨fun {Z H dx x P R} lv px h k => by
  unfold abList at h
  split at h
  · obtain ⟨v, rfl, p⟩ := rps_one px
    obtain ⟨a, xs, rfl, na, ha, ra⟩ := rp_lst p
    exact w_list (.inl (SqL.of ha)) fun p H' g hp e => k _ _ _ g (mk_lst e (new_not lv hp) (ra.gr g)) h
  · obtain ⟨v, rfl, p⟩ := rps_one px
    obtain ⟨a, xs, rfl, ha, ra⟩ := rp_tup p
    exact w_list (.inr ha.sqT) fun p H' g hp e => k _ _ _ g (mk_lst e (new_not lv hp) (ra.gr g)) h
  · exact h.elim⟩
def abTup : List PD → (PD → Prop) → Prop
  | [.lst ds], P => P (.tup ds)
  | [.tup ds], P => P (.tup ds)
  | _, _ => False
instance : LRn K (rTupA K) abTup := ⟨fun {Z H dx x P R} lv px h k => by
  unfold abTup at h
  split at h
  · obtain ⟨v, rfl, p⟩ := rps_one px
    obtain ⟨a, xs, rfl, na, ha, ra⟩ := rp_lst p
    exact w_tuple (SqL.of ha) fun p H' g hp e => k _ _ _ g (mk_tup e (ra.gr g)) h
  · obtain ⟨v, rfl, p⟩ := rps_one px
    obtain ⟨a, xs, rfl, ha, ra⟩ := rp_tup p
    exact ⟨a, xs, rfl, .inr ⟨ha.sqT, k _ _ _ (Gr.refl _ _) p h⟩⟩
  · exact h.elim⟩
def abDivmod : List PD → (PD → Prop) → Prop
  | [.int i, .int j], P => SzC (CDiv i j) ∧ P (.tup [.int (i / j), .int (i % j)])
  | _, _ => False
instance : LRn K rDivmod abDivmod := ⟨fun {Z H dx x P R} lv px h k => by
  unfold abDivmod at h
  split at h
  · obtain ⟨v, u, rfl, p, q⟩ := rps_two px
    obtain rfl := rp_int p
    obtain rfl := rp_int q
    exact w_divmod h.1 fun p H' g hp e => k _ _ _ g (mk_tup e (rps_cons mk_int (rps_cons mk_int rps_nil))) h.2
  · exact h.elim⟩
/-- a datum's kind -/
def kindD : PD → Option String
  | .non => some "NoneType"
  | .bl _ => some "bool"
  | .int _ => some "int"
  | .str _ => some "str"
  | .lst _ => some "list"
  | .tup _ => some "tuple"
  | _ => none
def abIsi : List PD → (PD → Prop) → Prop
  | [d, .ty T], P => ∃ k, kindD d = some k ∧ SzC (T = "int" ∨ T = "str" ∨ T = "bool" ∨ T = "list" ∨ T = "tuple") ∧ P (.bl (isa k T))
  | _, _ => False
end
end RS
namespace RS
open PySem L2
section
variable {K : PySem.W.Frag} {Z : AS1} {H : Hp}
/-! isinstance -/
def isiT (T : String) : Prop := T = "int" ∨ T = "str" ∨ T = "bool" ∨ T = "list" ∨ T = "tuple"
def rIsiD (K : PySem.W.Frag) : List V → Hp → VK → Prop := fun xs H Q => ∃ x k, TyX K H x (.type k) ∧ (k = "NoneType" ∨ k = "bool" ∨ k = "int" ∨ k = "str" ∨ k = "list" ∨ k = "tuple" ∨ k = "dict") ∧
  ((∃ T, xs = [x, .ty T] ∧ isiT T ∧ Q (.bl (isa k T)) H) ∨ ∃ p T U, xs = [x, .ref p] ∧ H p = some (.tup [.ty T, .ty U]) ∧ isiT T ∧ isiT U ∧ Q (.bl (isa k T || isa k U)) H)
theorem call_isiD {X : Cx} (h : X.K = K) : CallR X (.builtin "isinstance") (rIsiD K) := by
  subst h
  intro pins s σ H xs us Q I r h
  obtain ⟨x, k, ty, hk, h⟩ := h
  rcases h with ⟨T, rfl, hT, q⟩ | ⟨p, T, U, rfl, hp, hT, hU, q⟩
  · exact call_isi pins s σ H _ us Q I r ⟨x, .ty T, .type k, .type T, _, rfl, .ty T, ty, kit_isa (K := X.K) hk hT, q⟩
  · refine call_isiT pins s σ H _ us Q I r ⟨x, p, _, .type k, [.type T, .type U], _, rfl, hp, .cons (.ty T) (.cons (.ty U) .nil), ty, ?_, q⟩
    refine kitAny_cons (kit_isa (K := X.K) hk hT) (fun hb => ?_) (fun hb => by rw [hb]; rfl)
    refine kitAny_cons (kit_isa (K := X.K) hk hU) (fun hb2 => ?_) (fun hb2 => by rw [hb, hb2]; rfl)
    rw [hb, hb2]; rfl
theorem SqT.tyX {a : Addr} {xs : List V} (h : SqT K H a xs) : TyX K H (.ref a) (.type "tuple") := by
  rcases h with (h | ⟨o, h⟩) | ⟨o, its, n, h, c, _⟩
  · exact .base (.tup h)
  · exact .fTuple h
  · exact .kTuple h c
theorem kindD_ty {d : PD} {v : V} {k : String} (h : Rp K Z H d v) (e : kindD d = some k) : TyX K H v (.type k) ∧ (k = "NoneType" ∨ k = "bool" ∨ k = "int" ∨ k = "str" ∨ k = "list" ∨ k = "tuple" ∨ k = "dict") := by
  cases d with
  | non => cases e; rw [rp_non h]; exact ⟨.base .non, by simp⟩
  | bl b => cases e; rw [rp_bl h]; exact ⟨.base (.bl _), by simp⟩
  | int b => cases e; rw [rp_int h]; exact ⟨.base (.int _), by simp⟩
  | str b => cases e; rw [rp_str h]; exact ⟨.base (.str _), by simp⟩
  | tup ds => cases e; obtain ⟨a, xs, rfl, ha, _⟩ := rp_tup h; exact ⟨SqT.tyX ha.sqT, by simp⟩
  | lst ds => cases e; obtain ⟨a, xs, rfl, _, ha, _⟩ := rp_lst h; exact ⟨.base (.lst ha), by simp⟩
  | ref _ => cases e
  | ty _ => cases e
  | ro _ => cases e
instance : LRn K (rIsiD K) abIsi := ⟨fun {Z H dx x P R} lv px h k => by
  unfold abIsi at h
  split at h
  · obtain ⟨v, u, rfl, p, q⟩ := rps_two px
    obtain ⟨kk, hk, hT, h⟩ := h
    obtain rfl := rp_ty q
    obtain ⟨t1, t2⟩ := kindD_ty p hk
    exact ⟨v, kk, t1, t2, .inl ⟨_, rfl, hT, k _ _ _ (Gr.refl _ _) mk_bl h⟩⟩
  · exact h.elim⟩
variable {W : Type} {M : WM W} {XE : XK} {AX : XA W} {ta : TE} {fa : AE W}
/-- isinstance(.., (T, U)) -/
def aIsi2 (T U : String) (fa : AE W) : AE W := fun e w Q => fa e w fun d e w => ∃ k, kindD d = some k ∧ SzC (isiT T ∧ isiT U) ∧ Q (.bl (isa k T || isa k U)) e w
instance (priority := high) {T U : String} [la : LE M K XE AX ta fa] : LE M K XE AX (tCB (rIsiD K) (tCons ta (tCons (tTup (tCons (tC (.ty T)) (tCons (tC (.ty U)) tNil))) tNil))) (aIsi2 T U fa) := ⟨fun r0 x q k =>
  la.run r0 x q fun d1 e1 w1 v1 H1 Zw1 os1 r1 x1 p1 q1 => ⟨by show 2 ≤ sizeLine; decide, fun p hp => by
    obtain ⟨kk, hk, hT, h⟩ := q1
    obtain ⟨t1, t2⟩ := kindD_ty (p1.gr (Gr.new hp (o := .tup [.ty T, .ty U]))) hk
    exact ⟨v1, kk, t1, t2, .inr ⟨p, T, U, rfl, upd_same, hT.1, hT.2, k _ _ _ _ _ _ _ (r1.gr (Gr.new hp)) (x1.trans (Gr.ext (Gr.new hp))) mk_bl h⟩⟩⟩⟩
/-! texts' methods -/
def strsL (ss : List Str) : PD := .lst (ss.map .str)
def amSplit : PD → List PD → (PD → Prop) → Prop
  | .str a, [.str b], P => SzC ((b.length == 0) = false ∧ a.length ≤ 16000000) ∧ P (.lst ((PySem.Txt.split a b).map .str))
  | _, _, _ => False
instance : LRm K rSplit amSplit := ⟨fun {Z H dx dy x y P R} lv px py h k => by
  unfold amSplit at h
  split at h
  · obtain rfl := rp_str px
    obtain ⟨v, rfl, p⟩ := rps_one py
    obtain rfl := rp_str p
    obtain ⟨⟨h1, h2⟩, h⟩ := h
    exact w_split h1 (by omega) fun p H' g hp e => k _ _ _ g (mk_lst e (new_not lv hp) (rps_strs _)) h
  · exact h.elim⟩
def amPart : PD → List PD → (PD → Prop) → Prop
  | .str a, [.str b], P => SzC ((b.length == 0) = false ∧ a.length ≤ 16000000) ∧ P (.tup [.str (PySem.Txt.partition a b).1, .str (PySem.Txt.partition a b).2.1, .str (PySem.Txt.partition a b).2.2])
  | _, _, _ => False
instance : LRm K rPart amPart := ⟨fun {Z H dx dy x y P R} lv px py h k => by
  unfold amPart at h
  split at h
  · obtain rfl := rp_str px
    obtain ⟨v, rfl, p⟩ := rps_one py
    obtain rfl := rp_str p
    obtain ⟨⟨h1, h2⟩, h⟩ := h
    exact w_part1 h1 (by omega) fun p H' g hp e => k _ _ _ g (mk_tup e (rps_cons mk_str (rps_cons mk_str (rps_cons mk_str rps_nil)))) h
  · exact h.elim⟩
def amRpart : PD → List PD → (PD → Prop) → Prop
  | .str a, [.str b], P => SzC ((b.length == 0) = false ∧ a.length ≤ 16000000) ∧ P (.tup [.str (PySem.Txt.rpartition a b).1, .str (PySem.Txt.rpartition a b).2.1, .str (PySem.Txt.rpartition a b).2.2])
  | _, _, _ => False
instance : LRm K rRpart amRpart := ⟨fun {Z H dx dy x y P R} lv px py h k => by
  unfold amRpart at h
  split at h
  · obtain rfl := rp_str px
    obtain ⟨v, rfl, p⟩ := rps_one py
    obtain rfl := rp_str p
    obtain ⟨⟨h1, h2⟩, h⟩ := h
    exact w_rpart1 h1 (by omega) fun p H' g hp e => k _ _ _ g (mk_tup e (rps_cons mk_str (rps_cons mk_str (rps_cons mk_str rps_nil)))) h
  · exact h.elim⟩
def amJoin : PD → List PD → (PD → Prop) → Prop := fun d ds P => ∃ (a : Str) (ys : List Str), d = .str a ∧ ds = [.lst (ys.map .str)] ∧ SzC ((ys.map (·.length)).sum + ys.length * a.length ≤ 16777216) ∧ P (.str (PySem.Txt.join a ys))
instance : LRm K (rJoin K) amJoin := ⟨fun {Z H dx dy x y P R} lv px py h k => by
  obtain ⟨a, ys, rfl, rfl, hz, h⟩ := h
  obtain rfl := rp_str px
  obtain ⟨v, rfl, p⟩ := rps_one py
  obtain ⟨q, xs, rfl, na, ha, ra⟩ := rp_lst p
  obtain rfl := rps_strs' ra
  exact w_join (SqL.of ha) hz (k _ _ _ (Gr.refl _ _) mk_str h)⟩
def amStarts : PD → List PD → (PD → Prop) → Prop
  | .str a, [.str b], P => P (.bl (PySem.Txt.startswith a b))
  | _, _, _ => False
instance : LRm K rStarts amStarts := ⟨fun {Z H dx dy x y P R} lv px py h k => by
  unfold amStarts at h
  split at h
  · obtain rfl := rp_str px
    obtain ⟨v, rfl, p⟩ := rps_one py
    obtain rfl := rp_str p
    exact w_starts (k _ _ _ (Gr.refl _ _) mk_bl h)
  · exact h.elim⟩
def amLstrip : PD → List PD → (PD → Prop) → Prop
  | .str a, [.str b], P => SzC (a.length ≤ 16777216) ∧ P (.str (PySem.Txt.lstripChars a b))
  | _, _, _ => False
instance : LRm K rLstrip amLstrip := ⟨fun {Z H dx dy x y P R} lv px py h k => by
  unfold amLstrip at h
  split at h
  · obtain rfl := rp_str px
    obtain ⟨v, rfl, p⟩ := rps_one py
    obtain rfl := rp_str p
    exact w_lstrip h.1 (k _ _ _ (Gr.refl _ _) mk_str h.2)
  · exact h.elim⟩
def rFind : V → List V → Hp → VK → Prop := fun x xs H Q => ∃ a b, x = .str a ∧ xs = [.str b] ∧ Q (.int (PySem.Txt.find a b)) H
theorem mt_findA {X : Cx} : MtR X "str.find" rFind := mt_find
def amFind : PD → List PD → (PD → Prop) → Prop
  | .str a, [.str b], P => P (.int (PySem.Txt.find a b))
  | _, _, _ => False
instance : LRm K rFind amFind := ⟨fun {Z H dx dy x y P R} lv px py h k => by
  unfold amFind at h
  split at h
  · obtain rfl := rp_str px
    obtain ⟨v, rfl, p⟩ := rps_one py
    obtain rfl := rp_str p
    exact ⟨_, _, rfl, rfl, k _ _ _ (Gr.refl _ _) mk_int h⟩
  · exact h.elim⟩
/-! x += -/
def adIp : PD → PD → (PD → Prop) → Prop
  | .int i, .int j, P => P (.int (i + j))
  | .str a, .str b, P => SzC (a.length + b.length ≤ 16777216) ∧ P (.str (a ++ b))
  | _, _, _ => False
instance : LIp K ipAdd adIp := ⟨fun {Z H dx dy x y P R} lv px py h k => by
  unfold adIp at h
  split at h
  · obtain rfl := rp_int px
    obtain rfl := rp_int py
    exact w_ipI (k _ _ _ (Gr.refl _ _) mk_int h)
  · obtain rfl := rp_str px
    obtain rfl := rp_str py
    exact w_ipS h.1 (k _ _ _ (Gr.refl _ _) mk_str h.2)
  · exact h.elim⟩
/-! xs[::-1] of a list -/
def aRev (fa : AE W) : AE W := fun e w Q => fa e w fun d e w => ∃ ds, d = .lst ds ∧ Q (.lst ds.reverse) e w
instance [la : LE M K XE AX ta fa] : LE M K XE AX (tRevL K ta) (aRev fa) := ⟨fun r0 x q k =>
  la.run r0 x q fun d1 e1 w1 v1 H1 Zw1 os1 r1 x1 p1 q1 => by
    obtain ⟨ds, rfl, q1⟩ := q1
    obtain ⟨a, xs, rfl, na, ha, ra⟩ := rp_lst p1
    exact ⟨a, xs, rfl, SqL.of ha, fun p hp => k _ _ _ _ _ _ _ (r1.gr (Gr.new hp)) (x1.trans (Gr.ext (Gr.new hp))) (mk_lst upd_same (r1.new hp) ((rps_rev ra).gr (Gr.new hp))) q1⟩⟩
end

/-! ### calls; a def from its reading -/
abbrev ASp (W : Type) := List PD → W → (PD → W → Prop) → XA W → Prop
/-- how a call's data lie -/
structure Lifted {W : Type} (M : WM W) (K : PySem.W.Frag) (vs : List V) (H : Hp) (R : VK) (E : XK) (ds : List PD) (w : W) (Zf Zw : AS1) (AQ : PD → W → Prop) (AX : XA W) : Prop where
  reps : Rps K (Zor Zf Zw) H ds vs
  m : M.R w Zw H
  fw : ∀ a, Zf a → ¬ Zw a
  fl : ∀ a, Zf a → ∃ o, H a = some o
  k : ∀ d w' v H' Zw', M.R w' Zw' H' → (∀ a, Zf a → ¬ Zw' a) → Ext Zw Zw' H H' → Rp K (Zor Zf Zw') H' d v → AQ d w' → R v H'
  x : XOk M K E AX Zf Zw H
def liftSp {W : Type} (M : WM W) (K : PySem.W.Frag) (n : Nat) (a : ASp W) : Sp := fun vs H R E => ∃ (ds : List PD) (w : W) (Zf Zw : AS1) (AQ : PD → W → Prop) (AX : XA W), ds.length = n ∧ a ds w AQ AX ∧ Lifted M K vs H R E ds w Zf Zw AQ AX
theorem lift_len {W : Type} {M : WM W} {K : PySem.W.Frag} {n : Nat} {a : ASp W} {vs : List V} {H : Hp} {R : VK} {E : XK} (h : liftSp M K n a vs H R E) : vs.length = n := by
  obtain ⟨ds, w, Zf, Zw, AQ, AX, hn, _, L⟩ := h
  rw [rps_len L.reps, hn]
section
variable {W : Type} {M : WM W} {K : PySem.W.Frag} {XE : XK} {AX : XA W} {tA : TA} {fA : AA W}
def noX : XA W := fun _ _ => False
def aCall (n : Nat) (a : ASp W) (AX : XA W) (fA : AA W) : AE W := fun e w Q => fA e w fun ds e w => SzC (ds.length = n) ∧ a ds w (fun d w => Q d e w) AX
theorem Rl.lifted {Zf Zw : AS1} {os : Nat → Option Addr} {e : En} {w : W} {σ : L2.St} {H : Hp} {ds : List PD} {vs : List V} {Q : PD → En → W → Prop} {R : VK} {E : XK} {AX : XA W} (r : Rl M K Zf Zw os e w σ H) (p : Rps K (Zt Zf Zw os) H ds vs)
    (x : XOk M K E AX (fun a => Zf a ∨ ∃ i, os i = some a) Zw H)
    (k : ∀ d e' w' v H' Zw' os', Rl M K Zf Zw' os' e' w' σ H' → Ext (Zm Zw os) (Zm Zw' os') H H' → Rp K (Zt Zf Zw' os') H' d v → Q d e' w' → R v H') : Lifted M K vs H R E ds w (fun a => Zf a ∨ ∃ i, os i = some a) Zw (fun d w => Q d e w) AX where
  reps := p.less fun a z => by
    rcases z with (z | z) | z
    · exact .inl z
    · exact .inr (.inr z)
    · exact .inr (.inl z)
  m := r.m
  fw a z := by
    rcases z with z | ⟨i, z⟩
    · exact r.fw a z
    · exact (r.dis i a z).2.1
  fl a z := by
    rcases z with z | z
    · exact r.fl a z
    · exact r.live (.inr (.inr z))
  k d w' v H' Zw' m f y p q := k d e w' v H' Zw' os (r.ofM y m f) (Ext.ofM y) (p.less fun a z => by
    rcases z with z | z | z
    · exact .inl (.inl z)
    · exact .inr z
    · exact .inl (.inr z)) q
  x := x
instance {n : Nat} {a : ASp W} [la : LA M K XE AX tA fA] : LE M K XE AX (tCall (liftSp M K n a) [] E0 tA) (aCall n a noX fA) := ⟨fun {Zf Zw os e w σ H Q R} r0 x q k =>
  la.run r0 x q fun d1 e1 w1 v1 H1 Zw1 os1 r1 x1 p1 q1 => by
    rw [List.append_nil]
    exact ⟨d1, w1, _, Zw1, _, noX, q1.1, q1.2, r1.lifted p1 (fun C dx d v w H' Zw m f y hd p z => z.elim) fun d e' w' v H' Zw' os' r2 x2 p2 q2 => k d e' w' v H' Zw' os' r2 (x1.trans x2) p2 q2⟩⟩
/-- a call that may raise, out of the def -/
instance {n : Nat} {a : ASp W} [la : LA M K XE AX tA fA] : LE M K XE AX (tCall (liftSp M K n a) [] XE tA) (aCall n a AX fA) := ⟨fun {Zf Zw os e w σ H Q R} r0 x q k =>
  la.run r0 x q fun d1 e1 w1 v1 H1 Zw1 os1 r1 x1 p1 q1 => by
    rw [List.append_nil]
    refine ⟨d1, w1, _, Zw1, _, AX, q1.1, q1.2, r1.lifted p1 (fun C dx d v w H' Zw m f y hd p z => ?_) fun d e' w' v H' Zw' os' r2 x2 p2 q2 => k d e' w' v H' Zw' os' r2 (x1.trans x2) p2 q2⟩
    exact x C dx d v w H' Zw m (fun a z => f a (.inl z)) (x1.trans ((Ext.ofM y).drop)) hd (p.less fun a z => z.imp .inl id) z⟩
def startE (N : List Str) (ds : List PD) : En := ds.map (fun d => some (.va d)) ++ List.replicate (N.length - ds.length) none
theorem startE_rl {N : List Str} {vs : List V} {H : Hp} {ds : List PD} {w : W} {Zf Zw : AS1} (p : Rps K (Zor Zf Zw) H ds vs) (m : M.R w Zw H) (fw : ∀ a, Zf a → ¬ Zw a) (fl : ∀ a, Zf a → ∃ o, H a = some o) : Rl M K Zf Zw noOs (startE N ds) w (L2.start N vs) H := by
  have hl := rps_len p
  have get : ∀ (i : Nat) (s : Sl), (startE N ds)[i]? = some (some s) → ∃ d, ds[i]? = some d ∧ s = .va d := by
    intro i s h
    unfold startE at h
    by_cases hi : i < ds.length
    · rw [List.getElem?_append_left (by simpa using hi), List.getElem?_map] at h
      cases e : ds[i]? with
      | none => rw [e] at h; cases h
      | some d => rw [e] at h; cases h; exact ⟨d, rfl, rfl⟩
    · rw [List.getElem?_append_right (by simpa using hi), List.getElem?_replicate] at h
      split at h <;> cases h
  exact {
    va := fun i d h => by
      obtain ⟨d', h1, h2⟩ := get i _ h
      cases h2
      obtain ⟨v, hv, pv⟩ := rps_get' p h1
      refine ⟨v, ?_, pv.less fun a z => by
        rcases z with z | z | ⟨i, z⟩
        · exact .inl z
        · exact .inr z
        · cases z⟩
      have hi : i < vs.length := (List.getElem?_eq_some_iff.mp hv).1
      unfold L2.start
      rw [List.getElem?_append_left (by simpa using hi), List.getElem?_map, hv]; rfl
    ow := fun i d h => by obtain ⟨d', h1, h2⟩ := get i _ h; cases h2
    len := by unfold startE L2.start; simp [hl]
    inj := fun i j a h => by cases h
    dis := fun i a h => by cases h
    fw := fw
    fl := fl
    m := m }
theorem Lifted.go {N : List Str} {vs : List V} {H : Hp} {R : VK} {E : XK} {ds : List PD} {w : W} {Zf Zw : AS1} {AQ : PD → W → Prop} {AX : XA W} {t : TS} {as : AS W} (L : Lifted M K vs H R E ds w Zf Zw AQ AX) [ls : LS M K E AX t as]
    (h : as { nx := fun _ w => AQ .non w, rt := AQ } (startE N ds) w) : t { nx := fun _ H' => R .non H', rt := R } (L2.start N vs) H := by
  have no : ∀ a, Zm Zw noOs a → Zw a := fun a z => z.elim id fun ⟨i, z⟩ => by cases z
  refine ls.run (startE_rl L.reps L.m L.fw L.fl) (fun C dx d v w H' Zw' m f y hd p z => L.x C dx d v w H' Zw' m f (y.more no) hd p z) h ⟨fun {e' w' σ' H' Zw' os'} r y q => ?_, fun {e' w' σ' H' Zw' os'} r y q => q.elim, fun {e' w' σ' H' Zw' os'} r y q => q.elim, fun {d w' v H' Zw'} m f y p q => L.k _ _ _ _ _ m f (y.more no) p q⟩
  exact L.k _ _ _ _ _ r.m r.fw (y.more no).drop mk_non q
end
end RS
set_option Elab.async false
set_option linter.all false
set_option maxRecDepth 100000
set_option maxHeartbeats 4000000
/-! Dt: steps over data, by the head of what is to be shown. -/
namespace RS
open PySem L2
theorem if_pos_of {b : Bool} {B C : Prop} {dd : Decidable (b = true)} (h : b = true) (q : B) : @ite Prop (b = true) dd B C := by rw [if_pos h]; exact q
theorem if_neg_of {b : Bool} {B C : Prop} {dd : Decidable (b = true)} (h : b = false) (q : C) : @ite Prop (b = true) dd B C := by rw [if_neg (by rw [h]; exact Bool.false_ne_true)]; exact q
class LookE (e : En) (i : Nat) (s : outParam (Option Sl)) : Prop where
  h : e[i]? = some s
instance {s : Option Sl} {r : En} : LookE (s :: r) 0 s := ⟨rfl⟩
instance {s x : Option Sl} {r : En} {i : Nat} [l : LookE r i s] : LookE (x :: r) (i + 1) s := ⟨by simpa using l.h⟩
class SetE (e : En) (i : Nat) (s : Option Sl) (e' : outParam En) : Prop where
  h : e.set i s = e'
instance {s x : Option Sl} {r : En} : SetE (x :: r) 0 s (s :: r) := ⟨rfl⟩
instance {s x : Option Sl} {r r' : En} {i : Nat} [l : SetE r i s r'] : SetE (x :: r) (i + 1) s (x :: r') := ⟨by simp [l.h]⟩
class WipeE (e : En) (vs : List Nat) (e' : outParam En) : Prop where
  h : wipeE e vs = e'
instance {e : En} : WipeE e [] e := ⟨rfl⟩
instance {e e1 e2 : En} {v : Nat} {vs : List Nat} [a : WipeE e vs e1] [b : SetE e1 v none e2] : WipeE e (v :: vs) e2 := ⟨by unfold wipeE; rw [a.h, b.h]⟩
/-- an item at a written place -/
class AtL (ds : List PD) (k : Int) (c : outParam PD) : Prop where
  h : atI ds k = some c
theorem atI_lit {ds : List PD} {n : Nat} {c : PD} (h : ds[n]? = some c) : atI ds (n : Int) = some c := atI_nat' h
instance {a : PD} {r : List PD} : AtL (a :: r) 0 a := ⟨atI_lit (n := 0) rfl⟩
instance {a b : PD} {r : List PD} : AtL (a :: b :: r) 1 b := ⟨atI_lit (n := 1) rfl⟩
instance {a b c : PD} {r : List PD} : AtL (a :: b :: c :: r) 2 c := ⟨atI_lit (n := 2) rfl⟩
instance {a b c d : PD} {r : List PD} : AtL (a :: b :: c :: d :: r) 3 d := ⟨atI_lit (n := 3) rfl⟩
instance {a b c d f : PD} {r : List PD} : AtL (a :: b :: c :: d :: f :: r) 4 f := ⟨atI_lit (n := 4) rfl⟩
instance {a b c d f g : PD} {r : List PD} : AtL (a :: b :: c :: d :: f :: g :: r) 5 g := ⟨atI_lit (n := 5) rfl⟩
instance {a : PD} : AtL [a] (-1) a := ⟨rfl⟩
instance {a b : PD} : AtL [a, b] (-1) b := ⟨rfl⟩
instance {a b c : PD} : AtL [a, b, c] (-1) c := ⟨rfl⟩
instance {a b c d : PD} : AtL [a, b, c, d] (-1) d := ⟨rfl⟩
section
variable {W : Type} {e e' e1 e2 e3 : En} {w : W} {A : AN W} {fa fb fc : AE W} {ft fu : AT W} {fA : AA W} {fo fo' : AO W} {fi : AI W} {fs gs : AS W} {i j l n : Nat} {d d' : PD} {Q : PD → En → W → Prop} {QB : Bool → En → W → Prop} {QA : List PD → En → W → Prop} {QO : Option Int → En → W → Prop} {QE : En → Prop} {P : PD → Prop} {nx bk ct : En → W → Prop} {rt : PD → W → Prop} {f f' : PD → PD → (PD → Prop) → Prop} {B C : Prop}
instance : Stp (aC d e w Q) (Q d e w) := ⟨id⟩
instance [lk : LookE e i (some (.va d))] : Stp (aVar i e w Q) (Q d e w) := ⟨fun h => by unfold aVar; rw [lk.h]; exact h⟩
instance {ds : List PD} [lk : LookE e i (some (.ow ds))] [st : SetE e i (some (.va (.lst ds))) e'] : Stp (aVar i e w Q) (Q (.lst ds) e' w) := ⟨fun h => by unfold aVar; rw [lk.h]; show Q _ (e.set i _) w; rw [st.h]; exact h⟩
instance : Stp (aOp f fa fb e w Q) (fa e w fun d e w => fb e w fun d' e w => f d d' fun z => Q z e w) := ⟨id⟩
instance {f : PD → (PD → Prop) → Prop} : Stp (aUn f fa e w Q) (fa e w fun d e w => f d fun z => Q z e w) := ⟨id⟩
instance : Stp (aNil e w QA) (QA [] e w) := ⟨id⟩
instance : Stp (aCons fa fA e w QA) (fa e w fun d e w => fA e w fun ds e w => QA (d :: ds) e w) := ⟨id⟩
instance {f : List PD → (PD → Prop) → Prop} : Stp (aCB f fA e w Q) (fA e w fun ds e w => f ds fun z => Q z e w) := ⟨id⟩
instance : Stp (aTup fA e w Q) (fA e w fun ds e w => SzC (ds.length ≤ 1000000) ∧ Q (.tup ds) e w) := ⟨id⟩
instance : Stp (aLst fA e w Q) (fA e w fun ds e w => SzC (ds.length ≤ 1000000) ∧ Q (.lst ds) e w) := ⟨id⟩
instance : Stp (aTest fa e w QB) (fa e w fun d e w => kkB (fun b => QB b e w) d) := ⟨id⟩
instance {R : Bool → Prop} {b : Bool} : Stp (kkB R (.bl b)) (R b) := ⟨fun h => ⟨b, rfl, h⟩⟩
instance {R : Int → Prop} {b : Int} : Stp (kkI R (.int b)) (R b) := ⟨fun h => ⟨b, rfl, h⟩⟩
instance {R : Prop} {z : Str} : Stp (kkStr (.str z) R) R := ⟨fun h => ⟨⟨z, rfl⟩, h⟩⟩
instance : Stp (aIf ft fa fb e w Q) (ft e w fun b e w => if b = true then fa e w Q else fb e w Q) := ⟨id⟩
instance : Stp (aAnd ft fu e w QB) (ft e w fun b e w => if b = true then fu e w QB else QB false e w) := ⟨id⟩
instance : Stp (aOr ft fu e w QB) (ft e w fun b e w => if b = true then QB true e w else fu e w QB) := ⟨id⟩
instance : Stp (aNot ft e w QB) (ft e w fun b e w => QB (!b) e w) := ⟨id⟩
instance : Stp (aAndV fa fb e w Q) (fa e w fun d e w => kkB (fun b => if b = true then fb e w Q else Q (.bl false) e w) d) := ⟨id⟩
instance : Stp (aOrV fa fb e w Q) (fa e w fun d e w => kkB (fun b => if b = true then Q (.bl true) e w else fb e w Q) d) := ⟨id⟩
instance : Stp (aNotV fa e w Q) (fa e w fun d e w => kkB (fun b => Q (.bl (!b)) e w) d) := ⟨id⟩
instance : Stp (aChain f f' fa fb fc e w Q) (fa e w fun d e w => fb e w fun d' e w => f d d' (kkB fun b => if b = true then fc e w fun d'' e w => f' d' d'' fun z => Q z e w else Q (.bl false) e w)) := ⟨id⟩
instance : Stp (aIsN fa e w Q) (fa e w fun d e w => Q (.bl (isN d)) e w) := ⟨id⟩
instance : Stp (aNotN fa e w Q) (fa e w fun d e w => Q (.bl (!isN d)) e w) := ⟨id⟩
instance {f : PD → List PD → (PD → Prop) → Prop} : Stp (aM1 f fa fb e w Q) (fa e w fun d e w => kkStr d (fb e w fun d' e w => f d [d'] fun z => Q z e w)) := ⟨id⟩
instance : Stp (aNoPart e w QO) (QO none e w) := ⟨id⟩
instance : Stp (aPart fa e w QO) (fa e w fun d e w => kkI (fun i => QO (some i) e w) d) := ⟨id⟩
instance {f : PD → Option Int → Option Int → (PD → Prop) → Prop} : Stp (aSl f fa fo fo' e w Q) (fa e w fun d e w => fo e w fun lo e w => fo' e w fun hi e w => f d lo hi fun z => Q z e w) := ⟨id⟩
/-! is it None -/
instance {i : Int} {dd : Decidable (isN (.int i) = true)} : Stp (@ite Prop (isN (.int i) = true) dd B C) C := ⟨fun h => if_neg_of rfl h⟩
instance {i : Str} {dd : Decidable (isN (.str i) = true)} : Stp (@ite Prop (isN (.str i) = true) dd B C) C := ⟨fun h => if_neg_of rfl h⟩
instance {i : List PD} {dd : Decidable (isN (.tup i) = true)} : Stp (@ite Prop (isN (.tup i) = true) dd B C) C := ⟨fun h => if_neg_of rfl h⟩
instance {i : List PD} {dd : Decidable (isN (.lst i) = true)} : Stp (@ite Prop (isN (.lst i) = true) dd B C) C := ⟨fun h => if_neg_of rfl h⟩
instance {dd : Decidable (isN .non = true)} : Stp (@ite Prop (isN .non = true) dd B C) B := ⟨fun h => if_pos_of rfl h⟩
instance {i : Int} {dd : Decidable ((!isN (.int i)) = true)} : Stp (@ite Prop ((!isN (.int i)) = true) dd B C) B := ⟨fun h => if_pos_of rfl h⟩
instance {i : Str} {dd : Decidable ((!isN (.str i)) = true)} : Stp (@ite Prop ((!isN (.str i)) = true) dd B C) B := ⟨fun h => if_pos_of rfl h⟩
instance {i : List PD} {dd : Decidable ((!isN (.tup i)) = true)} : Stp (@ite Prop ((!isN (.tup i)) = true) dd B C) B := ⟨fun h => if_pos_of rfl h⟩
instance {i : List PD} {dd : Decidable ((!isN (.lst i)) = true)} : Stp (@ite Prop ((!isN (.lst i)) = true) dd B C) B := ⟨fun h => if_pos_of rfl h⟩
instance {dd : Decidable ((!isN .non) = true)} : Stp (@ite Prop ((!isN .non) = true) dd B C) C := ⟨fun h => if_neg_of rfl h⟩
/-! statements -/
instance : Stp ((AN.mk nx rt bk ct).nx e w) (nx e w) := ⟨id⟩
instance : Stp ((AN.mk nx rt bk ct).rt d w) (rt d w) := ⟨id⟩
instance : Stp ((AN.mk nx rt bk ct).bk e w) (bk e w) := ⟨id⟩
instance : Stp ((AN.mk nx rt bk ct).ct e w) (ct e w) := ⟨id⟩
instance : Stp (aNext A e w) (A.nx e w) := ⟨id⟩
instance : Stp (aBreak A e w) (A.bk e w) := ⟨id⟩
instance : Stp (aCont A e w) (A.ct e w) := ⟨id⟩
instance : Stp (aSeq fs gs A e w) (fs { A with nx := gs A } e w) := ⟨id⟩
instance : Stp (aDrop fa A e w) (fa e w fun _ e w => A.nx e w) := ⟨id⟩
instance : Stp (aRet fa A e w) (fa e w fun d _ w => A.rt d w) := ⟨id⟩
instance : Stp (aRetN A e w) (A.rt .non w) := ⟨id⟩
instance : Stp (aIfS ft fs gs A e w) (ft e w fun b e w => if b = true then fs A e w else gs A e w) := ⟨id⟩
instance {g : PD → En → (En → Prop) → Prop} : Stp (aAsg fa g A e w) (fa e w fun d e w => g d e fun e => A.nx e w) := ⟨id⟩
instance [st : SetE e i (some (.va d)) e'] : Stp (agName i d e QE) (QE e') := ⟨fun h => by unfold agName; rw [st.h]; exact h⟩
instance : Stp (agNil [] e QE) (QE e) := ⟨fun h => ⟨rfl, h⟩⟩
instance {g : PD → En → (En → Prop) → Prop} {g' : List PD → En → (En → Prop) → Prop} {ds : List PD} : Stp (agCons g g' (d :: ds) e QE) (g d e fun e => g' ds e QE) := ⟨fun h => ⟨d, ds, rfl, h⟩⟩
instance {g : List PD → En → (En → Prop) → Prop} {ds : List PD} : Stp (agTup n g (.tup ds) e QE) (SzC (ds.length = n) ∧ g ds e QE) := ⟨fun h => ⟨ds, rfl, h.1, h.2⟩⟩
def kkNew (i : Nat) (A : AN W) (e : En) (w : W) (ds : List PD) : Prop := SzC (ds.length ≤ 1000000 ∧ i < e.length) ∧ A.nx (e.set i (some (.ow ds))) w
instance : Stp (aNew fA i A e w) (fA e w fun ds e w => kkNew i A e w ds) := ⟨id⟩
instance {ds : List PD} [st : SetE e i (some (.ow ds)) e1] : Stp (kkNew i A e w ds) (SzC (ds.length ≤ 1000000 ∧ i < e.length) ∧ A.nx e1 w) := ⟨fun h => ⟨h.1, by rw [st.h]; exact h.2⟩⟩
def kkPar (i j : Nat) (A : AN W) (e : En) (w : W) (ds : List PD) : Prop := ∃ d d', ds = [d, d'] ∧ A.nx ((e.set i (some (.va d))).set j (some (.va d'))) w
instance : Stp (aPar i j fA A e w) (fA e w fun ds e w => kkPar i j A e w ds) := ⟨id⟩
instance [st : SetE e i (some (.va d)) e1] [st' : SetE e1 j (some (.va d')) e2] : Stp (kkPar i j A e w [d, d']) (A.nx e2 w) := ⟨fun h => ⟨d, d', rfl, by rw [st.h, st'.h]; exact h⟩⟩
def kkPar3 (i j l : Nat) (A : AN W) (e : En) (w : W) (ds : List PD) : Prop := ∃ d d' d'', ds = [d, d', d''] ∧ A.nx (((e.set i (some (.va d))).set j (some (.va d'))).set l (some (.va d''))) w
instance : Stp (aPar3 i j l fA A e w) (fA e w fun ds e w => kkPar3 i j l A e w ds) := ⟨id⟩
instance {d'' : PD} [st : SetE e i (some (.va d)) e1] [st' : SetE e1 j (some (.va d')) e2] [st'' : SetE e2 l (some (.va d'')) e3] : Stp (kkPar3 i j l A e w [d, d', d'']) (A.nx e3 w) := ⟨fun h => ⟨d, d', d'', rfl, by rw [st.h, st'.h, st''.h]; exact h⟩⟩
def kkParN (i j : Nat) (A : AN W) (e : En) (w : W) (d : PD) : Prop := SzC (j < e.length) ∧ A.nx ((e.set i (some (.va d))).set j (some (.ow []))) w
instance : Stp (aParN i j fa A e w) (fa e w fun d e w => kkParN i j A e w d) := ⟨id⟩
instance [st : SetE e i (some (.va d)) e1] [st' : SetE e1 j (some (.ow [])) e2] : Stp (kkParN i j A e w d) (SzC (j < e.length) ∧ A.nx e2 w) := ⟨fun h => ⟨h.1, by rw [st.h, st'.h]; exact h.2⟩⟩
def kkParM (i j : Nat) (A : AN W) (e : En) (w : W) (d : PD) : Prop := SzC (i < e.length) ∧ A.nx ((e.set i (some (.ow []))).set j (some (.va d))) w
instance : Stp (aParM i j fa A e w) (fa e w fun d e w => kkParM i j A e w d) := ⟨id⟩
instance [st : SetE e i (some (.ow [])) e1] [st' : SetE e1 j (some (.va d)) e2] : Stp (kkParM i j A e w d) (SzC (i < e.length) ∧ A.nx e2 w) := ⟨fun h => ⟨h.1, by rw [st.h, st'.h]; exact h.2⟩⟩
def kkPar3N (i j l : Nat) (A : AN W) (e : En) (w : W) (d d' : PD) : Prop := SzC (j < e.length) ∧ A.nx (((e.set i (some (.va d))).set j (some (.ow []))).set l (some (.va d'))) w
instance : Stp (aPar3N i j l fa fc A e w) (fa e w fun d e w => fc e w fun d' e w => kkPar3N i j l A e w d d') := ⟨id⟩
instance [st : SetE e i (some (.va d)) e1] [st' : SetE e1 j (some (.ow [])) e2] [st'' : SetE e2 l (some (.va d')) e3] : Stp (kkPar3N i j l A e w d d') (SzC (j < e.length) ∧ A.nx e3 w) := ⟨fun h => ⟨h.1, by rw [st.h, st'.h, st''.h]; exact h.2⟩⟩
def kkAug (i : Nat) (A : AN W) (e : En) (w : W) (z : PD) : Prop := A.nx (e.set i (some (.va z))) w
instance [lk : LookE e i (some (.va d))] : Stp (aAug i fa f A e w) (fa e w fun d' e w => f d d' fun z => kkAug i A e w z) := ⟨fun h => ⟨d, lk.h, h⟩⟩
instance [st : SetE e i (some (.va d)) e1] : Stp (kkAug i A e w d) (A.nx e1 w) := ⟨fun h => by unfold kkAug; rw [st.h]; exact h⟩
def kkApp (i : Nat) (d : PD) (A : AN W) (e : En) (w : W) : Prop := ∃ ds, e[i]? = some (some (.ow ds)) ∧ SzC (ds.length < 16000000) ∧ A.nx (e.set i (some (.ow (ds ++ [d])))) w
instance {ds : List PD} [lk : LookE e i (some (.ow ds))] : Stp (aApp i fa A e w) (fa e w fun d e w => kkApp i d A e w) := ⟨fun h => ⟨⟨ds, lk.h⟩, h⟩⟩
instance {ds : List PD} [lk : LookE e i (some (.ow ds))] [st : SetE e i (some (.ow (ds ++ [d]))) e1] : Stp (kkApp i d A e w) (SzC (ds.length < 16000000) ∧ A.nx e1 w) := ⟨fun h => ⟨ds, lk.h, h.1, by rw [st.h]; exact h.2⟩⟩
def kkExt (i : Nat) (d : PD) (A : AN W) (e : En) (w : W) : Prop := ∃ ds es, e[i]? = some (some (.ow ds)) ∧ d = .lst es ∧ SzC (ds.length + es.length ≤ 16000000) ∧ A.nx (e.set i (some (.ow (ds ++ es)))) w
instance {ds : List PD} [lk : LookE e i (some (.ow ds))] : Stp (aExt i fa A e w) (fa e w fun d e w => kkExt i d A e w) := ⟨fun h => ⟨⟨ds, lk.h⟩, h⟩⟩
instance {ds es : List PD} [lk : LookE e i (some (.ow ds))] [st : SetE e i (some (.ow (ds ++ es))) e1] : Stp (kkExt i (.lst es) A e w) (SzC (ds.length + es.length ≤ 16000000) ∧ A.nx e1 w) := ⟨fun h => ⟨ds, es, lk.h, rfl, h.1, by rw [st.h]; exact h.2⟩⟩
instance {ds : List PD} [lk : LookE e i (some (.ow ds))] : Stp (aLenO i e w Q) (Q (.int ds.length) e w) := ⟨fun h => by unfold aLenO; rw [lk.h]; exact h⟩
instance {ds : List PD} [lk : LookE e i (some (.va (.lst ds)))] : Stp (aLenO i e w Q) (Q (.int ds.length) e w) := ⟨fun h => by unfold aLenO; rw [lk.h]; exact h⟩
instance {ds : List PD} [lk : LookE e i (some (.va (.tup ds)))] : Stp (aLenO i e w Q) (Q (.int ds.length) e w) := ⟨fun h => by unfold aLenO; rw [lk.h]; exact h⟩
instance {ds : List PD} [lk : LookE e i (some (.va (.ro ds)))] : Stp (aLenO i e w Q) (Q (.int ds.length) e w) := ⟨fun h => by unfold aLenO; rw [lk.h]; exact h⟩
instance {z : Str} [lk : LookE e i (some (.va (.str z)))] : Stp (aLenO i e w Q) (SzC (z.length ≤ 16777216) ∧ Q (.int z.length) e w) := ⟨fun h => by unfold aLenO; rw [lk.h]; exact h⟩
def kkIx (ds : List PD) (P : PD → Prop) : PD → Prop := fun d => ∃ k c, d = .int k ∧ atI ds k = some c ∧ P c
instance {ds : List PD} [lk : LookE e i (some (.ow ds))] : Stp (aIxO i fb f e w Q) (fb e w fun d e' w => SzC (e' = e) ∧ kkIx ds (fun c => Q c e w) d) := ⟨fun h => by unfold aIxO; rw [lk.h]; exact h⟩
instance [lk : LookE e i (some (.va d))] : Stp (aIxO i fb f e w Q) (fb e w fun d' e w => f d d' fun z => Q z e w) := ⟨fun h => by unfold aIxO; rw [lk.h]; exact h⟩
instance {ds : List PD} {k : Int} {c : PD} [al : AtL ds k c] : Stp (kkIx ds P (.int k)) (P c) := ⟨fun h => ⟨k, c, rfl, al.h, h⟩⟩
theorem kkIx_of {ds : List PD} {k : Int} {c : PD} (h : atI ds k = some c) (q : P c) : kkIx ds P (.int k) := ⟨k, c, rfl, h, q⟩
/-! iterators -/
instance {ds : List PD} {QI : List PD → En → W → Prop} [lk : LookE e i (some (.va (.lst ds)))] : Stp (aiVar i e w QI) (QI ds e w) := ⟨fun h => by unfold aiVar; rw [lk.h]; exact h⟩
instance {ds : List PD} {QI : List PD → En → W → Prop} [lk : LookE e i (some (.va (.tup ds)))] : Stp (aiVar i e w QI) (QI ds e w) := ⟨fun h => by unfold aiVar; rw [lk.h]; exact h⟩
instance {z : Str} {QI : List PD → En → W → Prop} [lk : LookE e i (some (.va (.str z)))] : Stp (aiVar i e w QI) (QI (signsD z) e w) := ⟨fun h => by unfold aiVar; rw [lk.h]; exact h⟩
instance {ds : List PD} {QI : List PD → En → W → Prop} [lk : LookE e i (some (.ow ds))] [st : SetE e i (some (.va (.lst ds))) e1] : Stp (aiVar i e w QI) (QI ds e1 w) := ⟨fun h => by unfold aiVar; rw [lk.h]; show QI _ (e.set i _) w; rw [st.h]; exact h⟩
def kkR1 (R : Int → Prop) : List PD → Prop := fun ds => ∃ k, ds = [.int k] ∧ SzC (-1000000000 ≤ k ∧ k ≤ 1000000000) ∧ R k
instance {R : Int → Prop} {k : Int} : Stp (kkR1 R [.int k]) (SzC (-1000000000 ≤ k ∧ k ≤ 1000000000) ∧ R k) := ⟨fun h => ⟨k, rfl, h⟩⟩
instance {QI : List PD → En → W → Prop} : Stp (aiRng1 fA e w QI) (fA e w fun ds e w => kkR1 (fun k => QI (intsD 0 k.toNat) e w) ds) := ⟨id⟩
def kkR2 (R : Int → Int → Prop) : List PD → Prop := fun ds => ∃ k m, ds = [.int k, .int m] ∧ SzC (-1000000000 ≤ k ∧ k ≤ 1000000000 ∧ -1000000000 ≤ m ∧ m ≤ 1000000000) ∧ R k m
instance {R : Int → Int → Prop} {k m : Int} : Stp (kkR2 R [.int k, .int m]) (SzC (-1000000000 ≤ k ∧ k ≤ 1000000000 ∧ -1000000000 ≤ m ∧ m ≤ 1000000000) ∧ R k m) := ⟨fun h => ⟨k, m, rfl, h⟩⟩
instance {QI : List PD → En → W → Prop} : Stp (aiRng2 fA e w QI) (fA e w fun ds e w => kkR2 (fun k m => QI (intsD k (m - k).toNat) e w) ds) := ⟨id⟩
def kkE1 (R : List PD → Prop) : List PD → Prop := fun ds => ∃ es, ds = [.lst es] ∧ R es
instance {R : List PD → Prop} {es : List PD} : Stp (kkE1 R [.lst es]) (R es) := ⟨fun h => ⟨es, rfl, h⟩⟩
instance {QI : List PD → En → W → Prop} : Stp (aiEnum fA e w QI) (fA e w fun ds e w => kkE1 (fun es => QI (enumD 0 es) e w) ds) := ⟨id⟩
def kkL (R : List PD → Prop) : PD → Prop := fun d => ∃ es, d = .lst es ∧ R es
instance {R : List PD → Prop} {es : List PD} : Stp (kkL R (.lst es)) (R es) := ⟨fun h => ⟨es, rfl, h⟩⟩
def kkT (R : List PD → Prop) : PD → Prop := fun d => ∃ es, d = .tup es ∧ R es
instance {R : List PD → Prop} {es : List PD} : Stp (kkT R (.tup es)) (R es) := ⟨fun h => ⟨es, rfl, h⟩⟩
def kkS (R : List PD → Prop) : PD → Prop := fun d => ∃ z, d = .str z ∧ R (signsD z)
instance {R : List PD → Prop} {z : Str} : Stp (kkS R (.str z)) (R (signsD z)) := ⟨fun h => ⟨z, rfl, h⟩⟩
theorem it_L {QI : List PD → En → W → Prop} (h : fa e w fun d e w => kkL (fun ds => QI ds e w) d) : aiAny fa e w QI := .inl h
theorem it_T {QI : List PD → En → W → Prop} (h : fa e w fun d e w => kkT (fun ds => QI ds e w) d) : aiAny fa e w QI := .inr (.inl h)
theorem it_S {QI : List PD → En → W → Prop} (h : fa e w fun d e w => kkS (fun ds => QI ds e w) d) : aiAny fa e w QI := .inr (.inr h)
instance {g : PD → En → (En → Prop) → Prop} : Stp (aFor fi g fs A e w) (fi e w fun ds e w => kkFor g fs A ds e w) := ⟨id⟩
instance {g : PD → En → (En → Prop) → Prop} {vs ix : List Nat} : Stp (aLc fi g ft fa vs ix e w Q) (fi e w fun ds e w => kkLc g ft fa vs ix ds Q e w) := ⟨id⟩
instance {m : Nat} {a : ASp W} {AX : XA W} : Stp (aCall m a AX fA e w Q) (fA e w fun ds e w => SzC (ds.length = m) ∧ a ds w (fun d w => Q d e w) AX) := ⟨id⟩
/-! values -/
instance {g : Int → Int → PD} {a b : Int} : Stp (adI0 g (.int a) (.int b) P) (P (g a b)) := ⟨id⟩
instance {D : Int → Int → Prop} {g : Int → Int → PD} {a b : Int} : Stp (adI D g (.int a) (.int b) P) (SzC (D a b) ∧ P (g a b)) := ⟨id⟩
instance {g : Int → PD} {a : Int} : Stp (adU g (.int a) P) (P (g a)) := ⟨id⟩
instance {a b : Int} : Stp (adAdd (.int a) (.int b) P) (P (.int (a + b))) := ⟨id⟩
instance {a b : Str} : Stp (adAdd (.str a) (.str b) P) (SzC (a.length + b.length ≤ 16777216) ∧ P (.str (a ++ b))) := ⟨id⟩
instance {a b : List PD} : Stp (adAdd (.lst a) (.lst b) P) (SzC (a.length + b.length ≤ 16777216) ∧ P (.lst (a ++ b))) := ⟨id⟩
instance {a b : List PD} : Stp (adAdd (.tup a) (.tup b) P) (SzC (a ≠ [] ∧ a.length + b.length ≤ 16777216) ∧ P (.tup (a ++ b))) := ⟨id⟩
instance {a b : Int} : Stp (adMul (.int a) (.int b) P) (SzC (CMul a b) ∧ P (.int (a * b))) := ⟨id⟩
instance {a : Str} {b : Int} : Stp (adMul (.str a) (.int b) P) (SzC (a.length ≤ 10 ∧ -10 ≤ b ∧ b ≤ 1000) ∧ P (.str (PySem.Txt.mul a b))) := ⟨id⟩
class EqC (x y : PD) (b : outParam Bool) : Prop where
  h : scalD x y = true ∧ eqD x y = b
theorem eqD_int {a b : Int} : eqD (.int a) (.int b) = decide (a = b) := by simp [eqD, toPy, PyData.eqv]; rw [Bool.eq_iff_iff]; simp
theorem eqD_str {a b : Str} : eqD (.str a) (.str b) = decide (a = b) := by simp [eqD, toPy, PyData.eqv]; rw [Bool.eq_iff_iff]; simp
theorem eqD_bl {a b : Bool} : eqD (.bl a) (.bl b) = decide (a = b) := by simp [eqD, toPy, PyData.eqv]; rw [Bool.eq_iff_iff]; simp
instance {a b : Int} : EqC (.int a) (.int b) (decide (a = b)) := ⟨rfl, eqD_int⟩
instance {a b : Str} : EqC (.str a) (.str b) (decide (a = b)) := ⟨rfl, eqD_str⟩
instance {a b : Bool} : EqC (.bl a) (.bl b) (decide (a = b)) := ⟨rfl, eqD_bl⟩
instance {a : Int} {b : Str} : EqC (.int a) (.str b) false := ⟨rfl, rfl⟩
instance {a : Str} {b : Int} : EqC (.str a) (.int b) false := ⟨rfl, rfl⟩
instance {a : Int} : EqC (.int a) .non false := ⟨rfl, rfl⟩
instance {a : Str} : EqC (.str a) .non false := ⟨rfl, rfl⟩
instance {a : Int} : EqC .non (.int a) false := ⟨rfl, rfl⟩
instance {a : Str} : EqC .non (.str a) false := ⟨rfl, rfl⟩
instance : EqC .non .non true := ⟨rfl, rfl⟩
instance {b : Bool} [q : EqC d d' b] : Stp (adEq d d' P) (P (.bl b)) := ⟨fun h => ⟨.inl q.h.1, by rw [q.h.2]; exact h⟩⟩
instance {b : Bool} [q : EqC d d' b] : Stp (adNe d d' P) (P (.bl (!b))) := ⟨fun h => ⟨.inl q.h.1, by rw [q.h.2]; exact h⟩⟩
instance {a b : Int} : Stp (adLe (.int a) (.int b) P) (P (.bl (decide (a ≤ b)))) := ⟨id⟩
instance {a b : Str} : Stp (adLe (.str a) (.str b) P) (P (.bl (!decide (b.cps.toList < a.cps.toList)))) := ⟨id⟩
instance {c : Nat} {t : Str} : Stp (adInG false (.str ⟨#[c]⟩) (.str t) P) (P (.bl (decide (c ∈ t.cps.toList)))) := ⟨fun h => ⟨c, rfl, h⟩⟩
instance {c : Nat} {t : Str} : Stp (adInG true (.str ⟨#[c]⟩) (.str t) P) (P (.bl (!decide (c ∈ t.cps.toList)))) := ⟨fun h => ⟨c, rfl, h⟩⟩
theorem inD_str {s : Str} : ∀ {ss : List Str}, inD (.str s) (ss.map .str) = decide (s ∈ ss)
  | [] => rfl
  | t :: ss => by
    have ih := inD_str (s := s) (ss := ss)
    unfold inD inV at ih ⊢
    simp only [List.map_cons, List.any_cons, vOf] at ih ⊢
    rw [ih]
    rw [Bool.eq_iff_iff]
    simp only [eqV, Bool.or_eq_true, beq_iff_eq, decide_eq_true_eq, List.mem_cons]
    exact or_congr_left ⟨Eq.symm, Eq.symm⟩
theorem flat_strs (ss : List Str) : (ss.map PD.str).all flatD = true := by induction ss with
  | nil => rfl
  | cons s r ih => rw [List.map_cons, List.all_cons, ih]; rfl
instance (priority := high) {s : Str} {ss : List Str} : Stp (adInG false (.str s) (.lst (ss.map .str)) P) (P (.bl (decide (s ∈ ss)))) := ⟨fun h => ⟨⟨rfl, flat_strs ss⟩, by rw [inD_str]; exact h⟩⟩
instance (priority := high) {s : Str} {ss : List Str} : Stp (adInG true (.str s) (.lst (ss.map .str)) P) (P (.bl (!decide (s ∈ ss)))) := ⟨fun h => ⟨⟨rfl, flat_strs ss⟩, by rw [inD_str]; exact h⟩⟩
class FlatS (ds : List PD) (ss : outParam (List Str)) : Prop where
  h : ds = ss.map .str
instance : FlatS [] [] := ⟨rfl⟩
instance {s : Str} {ds : List PD} {ss : List Str} [x : FlatS ds ss] : FlatS (.str s :: ds) (s :: ss) := ⟨by rw [x.h]; rfl⟩
instance {s : Str} {ds : List PD} {ss : List Str} [x : FlatS ds ss] : Stp (adInG false (.str s) (.tup ds) P) (P (.bl (decide (s ∈ ss)))) := ⟨fun h => by rw [x.h]; exact ⟨⟨rfl, flat_strs ss⟩, by rw [inD_str]; exact h⟩⟩
instance {s : Str} {ds : List PD} {ss : List Str} [x : FlatS ds ss] : Stp (adInG true (.str s) (.tup ds) P) (P (.bl (!decide (s ∈ ss)))) := ⟨fun h => by rw [x.h]; exact ⟨⟨rfl, flat_strs ss⟩, by rw [inD_str]; exact h⟩⟩
instance {s : Str} {ds : List PD} {ss : List Str} [x : FlatS ds ss] : Stp (adInG false (.str s) (.lst ds) P) (P (.bl (decide (s ∈ ss)))) := ⟨fun h => by rw [x.h]; exact ⟨⟨rfl, flat_strs ss⟩, by rw [inD_str]; exact h⟩⟩
instance {ds : List PD} {k : Int} {c : PD} [al : AtL ds k c] : Stp (adIx (.lst ds) (.int k) P) (P c) := ⟨fun h => ⟨c, al.h, h⟩⟩
instance {ds : List PD} {k : Int} {c : PD} [al : AtL ds k c] : Stp (adIx (.tup ds) (.int k) P) (P c) := ⟨fun h => ⟨c, al.h, h⟩⟩
theorem ix_L {ds : List PD} {k : Int} {c : PD} (h : atI ds k = some c) (q : P c) : adIx (.lst ds) (.int k) P := ⟨c, h, q⟩
theorem ix_T {ds : List PD} {k : Int} {c : PD} (h : atI ds k = some c) (q : P c) : adIx (.tup ds) (.int k) P := ⟨c, h, q⟩
theorem ix_S {z : Str} {k : Int} {c : Nat} (hz : z.length ≤ 16777216) (h : atI z.cps.toList k = some c) (q : P (.str ⟨#[c]⟩)) : adIx (.str z) (.int k) P := ⟨hz, c, h, q⟩
instance {z : Str} {lo hi : Option Int} : Stp (adSl (.str z) lo hi P) (SzC (z.length ≤ 16777216) ∧ P (.str (cutS z lo hi))) := ⟨id⟩
instance {ds : List PD} {lo hi : Option Int} : Stp (adSl (.lst ds) lo hi P) (P (.lst (cutD ds lo hi))) := ⟨id⟩
instance {ds : List PD} {lo hi : Option Int} : Stp (adSl (.tup ds) lo hi P) (SzC (¬ (HT.sIx ds.length 0 lo = 0 ∧ HT.sIx ds.length ds.length hi = ds.length)) ∧ P (.tup (cutD ds lo hi))) := ⟨id⟩
instance {ds : List PD} : Stp (abLen [.lst ds] P) (P (.int ds.length)) := ⟨id⟩
instance {ds : List PD} : Stp (abLen [.tup ds] P) (P (.int ds.length)) := ⟨id⟩
instance {z : Str} : Stp (abLen [.str z] P) (SzC (z.length ≤ 16777216) ∧ P (.int z.length)) := ⟨id⟩
instance (priority := low) {α : Type} {xs : List α} {g : α → Bool} : Stp (abAll [.lst (xs.map fun x => .bl (g x))] P) (P (.bl ((xs.map g).all id))) := ⟨fun h => ⟨xs.map g, by rw [List.map_map]; rfl, h⟩⟩
instance (priority := low) {α : Type} {xs : List α} {g : α → Bool} : Stp (abAny [.lst (xs.map fun x => .bl (g x))] P) (P (.bl ((xs.map g).any id))) := ⟨fun h => ⟨xs.map g, by rw [List.map_map]; rfl, h⟩⟩
instance (priority := low) {α : Type} {xs : List α} {g : α → Int} : Stp (abSum [.lst (xs.map fun x => .int (g x))] P) (P (.int (xs.map g).sum)) := ⟨fun h => ⟨xs.map g, by rw [List.map_map]; rfl, h⟩⟩
instance (priority := low) {α : Type} {a : Str} {xs : List α} {g : α → Str} : Stp (amJoin (.str a) [.lst (xs.map fun x => .str (g x))] P) (SzC (((xs.map g).map (·.length)).sum + (xs.map g).length * a.length ≤ 16777216) ∧ P (.str (PySem.Txt.join a (xs.map g)))) := ⟨fun h => ⟨a, xs.map g, rfl, by rw [List.map_map]; rfl, h⟩⟩
instance {bs : List Bool} : Stp (abAll [.lst (bs.map .bl)] P) (P (.bl (bs.all id))) := ⟨fun h => ⟨bs, rfl, h⟩⟩
instance {bs : List Bool} : Stp (abAny [.lst (bs.map .bl)] P) (P (.bl (bs.any id))) := ⟨fun h => ⟨bs, rfl, h⟩⟩
instance {bs : List Int} : Stp (abSum [.lst (bs.map .int)] P) (P (.int bs.sum)) := ⟨fun h => ⟨bs, rfl, h⟩⟩
instance {a : Int} : Stp (abAbs [.int a] P) (P (.int (if a < 0 then -a else a))) := ⟨id⟩
instance {a b : Int} : Stp (abMax [.int a, .int b] P) (P (.int (if b > a then b else a))) := ⟨id⟩
instance {a b : Int} : Stp (abMin [.int a, .int b] P) (P (.int (if b < a then b else a))) := ⟨id⟩
instance {a : Int} : Stp (abInt [.int a] P) (P (.int a)) := ⟨id⟩
instance {a : Bool} : Stp (abInt [.bl a] P) (P (.int (if a then 1 else 0))) := ⟨id⟩
theorem ab_int {a : Str} {k : Int} (h : PySem.intText? a = some k) (hz : a.length ≤ 640) (q : P (.int k)) : abInt [.str a] P := ⟨k, h, hz, q⟩
instance {a : Int} : Stp (abStr [.int a] P) (SzC (a.natAbs.log2 < 1920) ∧ P (.str (toString a))) := ⟨id⟩
instance {ds : List PD} : Stp (abList [.lst ds] P) (P (.lst ds)) := ⟨id⟩
instance {ds : List PD} : Stp (abList [.tup ds] P) (P (.lst ds)) := ⟨id⟩
instance {ds : List PD} : Stp (abTup [.lst ds] P) (P (.tup ds)) := ⟨id⟩
instance {ds : List PD} : Stp (abTup [.tup ds] P) (P (.tup ds)) := ⟨id⟩
instance {a b : Int} : Stp (abDivmod [.int a, .int b] P) (SzC (CDiv a b) ∧ P (.tup [.int (a / b), .int (a % b)])) := ⟨id⟩
class IsiC (d : PD) (T : String) (b : outParam Bool) : Prop where
  h : ∃ k, kindD d = some k ∧ isiT T ∧ isa k T = b
instance : IsiC .non "int" false := ⟨"NoneType", rfl, by unfold isiT; simp, by decide +kernel⟩
instance : IsiC .non "str" false := ⟨"NoneType", rfl, by unfold isiT; simp, by decide +kernel⟩
instance : IsiC .non "bool" false := ⟨"NoneType", rfl, by unfold isiT; simp, by decide +kernel⟩
instance : IsiC .non "list" false := ⟨"NoneType", rfl, by unfold isiT; simp, by decide +kernel⟩
instance : IsiC .non "tuple" false := ⟨"NoneType", rfl, by unfold isiT; simp, by decide +kernel⟩
instance {b : Bool} : IsiC (.bl b) "int" true := ⟨"bool", rfl, by unfold isiT; simp, by decide +kernel⟩
instance {b : Bool} : IsiC (.bl b) "str" false := ⟨"bool", rfl, by unfold isiT; simp, by decide +kernel⟩
instance {b : Bool} : IsiC (.bl b) "bool" true := ⟨"bool", rfl, by unfold isiT; simp, by decide +kernel⟩
instance {b : Bool} : IsiC (.bl b) "list" false := ⟨"bool", rfl, by unfold isiT; simp, by decide +kernel⟩
instance {b : Bool} : IsiC (.bl b) "tuple" false := ⟨"bool", rfl, by unfold isiT; simp, by decide +kernel⟩
instance {b : Int} : IsiC (.int b) "int" true := ⟨"int", rfl, by unfold isiT; simp, by decide +kernel⟩
instance {b : Int} : IsiC (.int b) "str" false := ⟨"int", rfl, by unfold isiT; simp, by decide +kernel⟩
instance {b : Int} : IsiC (.int b) "bool" false := ⟨"int", rfl, by unfold isiT; simp, by decide +kernel⟩
instance {b : Int} : IsiC (.int b) "list" false := ⟨"int", rfl, by unfold isiT; simp, by decide +kernel⟩
instance {b : Int} : IsiC (.int b) "tuple" false := ⟨"int", rfl, by unfold isiT; simp, by decide +kernel⟩
instance {b : Str} : IsiC (.str b) "int" false := ⟨"str", rfl, by unfold isiT; simp, by decide +kernel⟩
instance {b : Str} : IsiC (.str b) "str" true := ⟨"str", rfl, by unfold isiT; simp, by decide +kernel⟩
instance {b : Str} : IsiC (.str b) "bool" false := ⟨"str", rfl, by unfold isiT; simp, by decide +kernel⟩
instance {b : Str} : IsiC (.str b) "list" false := ⟨"str", rfl, by unfold isiT; simp, by decide +kernel⟩
instance {b : Str} : IsiC (.str b) "tuple" false := ⟨"str", rfl, by unfold isiT; simp, by decide +kernel⟩
instance {b : List PD} : IsiC (.tup b) "int" false := ⟨"tuple", rfl, by unfold isiT; simp, by decide +kernel⟩
instance {b : List PD} : IsiC (.tup b) "str" false := ⟨"tuple", rfl, by unfold isiT; simp, by decide +kernel⟩
instance {b : List PD} : IsiC (.tup b) "bool" false := ⟨"tuple", rfl, by unfold isiT; simp, by decide +kernel⟩
instance {b : List PD} : IsiC (.tup b) "list" false := ⟨"tuple", rfl, by unfold isiT; simp, by decide +kernel⟩
instance {b : List PD} : IsiC (.tup b) "tuple" true := ⟨"tuple", rfl, by unfold isiT; simp, by decide +kernel⟩
instance {b : List PD} : IsiC (.lst b) "int" false := ⟨"list", rfl, by unfold isiT; simp, by decide +kernel⟩
instance {b : List PD} : IsiC (.lst b) "str" false := ⟨"list", rfl, by unfold isiT; simp, by decide +kernel⟩
instance {b : List PD} : IsiC (.lst b) "bool" false := ⟨"list", rfl, by unfold isiT; simp, by decide +kernel⟩
instance {b : List PD} : IsiC (.lst b) "list" true := ⟨"list", rfl, by unfold isiT; simp, by decide +kernel⟩
instance {b : List PD} : IsiC (.lst b) "tuple" false := ⟨"list", rfl, by unfold isiT; simp, by decide +kernel⟩
instance {T : String} {b : Bool} [q : IsiC d T b] : Stp (abIsi [d, .ty T] P) (P (.bl b)) := ⟨fun h => by obtain ⟨k, h1, h2, h3⟩ := q.h; exact ⟨k, h1, h2, by rw [h3]; exact h⟩⟩
def kkIsi2 (T U : String) (R : Bool → Prop) : PD → Prop := fun d => ∃ k, kindD d = some k ∧ SzC (isiT T ∧ isiT U) ∧ R (isa k T || isa k U)
instance {T U : String} : Stp (aIsi2 T U fa e w Q) (fa e w fun d e w => kkIsi2 T U (fun b => Q (.bl b) e w) d) := ⟨id⟩
instance {T U : String} {R : Bool → Prop} {b c : Bool} [q : IsiC d T b] [q' : IsiC d U c] : Stp (kkIsi2 T U R d) (R (b || c)) := ⟨fun h => by
  obtain ⟨k, h1, h2, h3⟩ := q.h
  obtain ⟨k', h1', h2', h3'⟩ := q'.h
  rw [h1] at h1'; cases h1'
  exact ⟨k, h1, ⟨h2, h2'⟩, by rw [h3, h3']; exact h⟩⟩
instance {a b : Str} : Stp (amSplit (.str a) [.str b] P) (SzC ((b.length == 0) = false ∧ a.length ≤ 16000000) ∧ P (.lst ((PySem.Txt.split a b).map .str))) := ⟨id⟩
instance {a b : Str} : Stp (amPart (.str a) [.str b] P) (SzC ((b.length == 0) = false ∧ a.length ≤ 16000000) ∧ P (.tup [.str (PySem.Txt.partition a b).1, .str (PySem.Txt.partition a b).2.1, .str (PySem.Txt.partition a b).2.2])) := ⟨id⟩
instance {a b : Str} : Stp (amRpart (.str a) [.str b] P) (SzC ((b.length == 0) = false ∧ a.length ≤ 16000000) ∧ P (.tup [.str (PySem.Txt.rpartition a b).1, .str (PySem.Txt.rpartition a b).2.1, .str (PySem.Txt.rpartition a b).2.2])) := ⟨id⟩
instance {a : Str} {ys : List Str} : Stp (amJoin (.str a) [.lst (ys.map .str)] P) (SzC ((ys.map (·.length)).sum + ys.length * a.length ≤ 16777216) ∧ P (.str (PySem.Txt.join a ys))) := ⟨fun h => ⟨a, ys, rfl, rfl, h⟩⟩
instance {a b : Str} : Stp (amStarts (.str a) [.str b] P) (P (.bl (PySem.Txt.startswith a b))) := ⟨id⟩
instance {a b : Str} : Stp (amLstrip (.str a) [.str b] P) (SzC (a.length ≤ 16777216) ∧ P (.str (PySem.Txt.lstripChars a b))) := ⟨id⟩
instance {a b : Str} : Stp (amFind (.str a) [.str b] P) (P (.int (PySem.Txt.find a b))) := ⟨id⟩
instance {a b : Int} : Stp (adIp (.int a) (.int b) P) (P (.int (a + b))) := ⟨id⟩
instance {a b : Str} : Stp (adIp (.str a) (.str b) P) (SzC (a.length + b.length ≤ 16777216) ∧ P (.str (a ++ b))) := ⟨id⟩
instance : Stp (aRev fa e w Q) (fa e w fun d e w => kkL (fun ds => Q (.lst ds.reverse) e w) d) := ⟨id⟩
def aYes : AT W := fun e w Q => Q true e w
instance {M : WM W} {K : PySem.W.Frag} {XE : XK} {AX : XA W} : LT M K XE AX tYes aYes := ⟨fun r x q k => k _ _ _ _ _ _ r Ext.refl q⟩
instance : Stp (aYes e w QB) (QB true e w) := ⟨id⟩
theorem at_startE {N : List Str} {ds : List PD} {as : AS W} (e1 : En) (h0 : startE N ds = e1) (h : as A e1 w) : as A (startE N ds) w := by rw [h0]; exact h
/-- both ways give one value -/
theorem ife_join {b : Bool} (v : PD) (h1 : b = true → ∀ Q : PD → En → W → Prop, Q v e w → fa e w Q) (h2 : b = false → ∀ Q : PD → En → W → Prop, Q v e w → fb e w Q) (q : Q v e w) : if b = true then fa e w Q else fb e w Q := by
  cases b with
  | true => exact (if_pos rfl).mpr (h1 rfl _ q)
  | false => exact (if_neg Bool.false_ne_true).mpr (h2 rfl _ q)
/-- a and b, the second asked of a def that tells a truth -/
theorem ifa_join (b c : Bool) {X : (Bool → En → W → Prop) → Prop} {Y : Bool → En → W → Prop} (hX : ∀ Q : Bool → En → W → Prop, Q c e w → X Q) (h1 : b = true → c = true → Y true e w) (h2 : ¬ (b = true ∧ c = true) → Y false e w) : if b = true then X Y else Y false e w := by
  cases b with
  | true =>
    refine (if_pos rfl).mpr (hX Y ?_)
    cases c with
    | true => exact h1 rfl rfl
    | false => exact h2 fun h => Bool.false_ne_true h.2
  | false => exact (if_neg Bool.false_ne_true).mpr (h2 fun h => Bool.false_ne_true h.1)
/-! loops by an invariant -/
theorem for_X {g : PD → En → (En → Prop) → Prop} {ds : List PD} (I : Nat → En → W → Prop) (X : En → W → Prop) (h0 : I 0 e w) (hs : ∀ i e w d, I i e w → i < ds.length → ds[i]? = some d → g d e fun e => fs { A with nx := I (i + 1), ct := I (i + 1), bk := X } e w)
    (hd : ∀ e w, I ds.length e w → X e w) (hx : ∀ e w, X e w → A.nx e w) : kkFor g fs A ds e w := ⟨I, X, h0, fun i e w hi hl d hd => hs i e w d hi hl hd, hd, hx⟩
theorem for_D {g : PD → En → (En → Prop) → Prop} {ds : List PD} (I : Nat → En → W → Prop) (h0 : I 0 e w) (hs : ∀ i e w d, I i e w → i < ds.length → ds[i]? = some d → g d e fun e => fs { A with nx := I (i + 1), ct := I (i + 1), bk := A.nx } e w)
    (hd : ∀ e w, I ds.length e w → A.nx e w) : kkFor g fs A ds e w := for_X I A.nx h0 hs hd fun _ _ h => h
theorem while_X (I : Nat → En → W → Prop) (X : En → W → Prop) (m : Nat) (h0 : I m e w) (hs : ∀ m e w, I m e w → ft e w fun b e w => if b = true then fs { A with nx := fun e w => ∃ m', m' < m ∧ I m' e w, ct := fun e w => ∃ m', m' < m ∧ I m' e w, bk := X } e w else X e w) (hx : ∀ e w, X e w → A.nx e w) : aWhile ft fs A e w := ⟨I, X, ⟨m, h0⟩, hs, hx⟩
theorem while_D (I : Nat → En → W → Prop) (m : Nat) (h0 : I m e w) (hs : ∀ m e w, I m e w → ft e w fun b e w => if b = true then fs { A with nx := fun e w => ∃ m', m' < m ∧ I m' e w, ct := fun e w => ∃ m', m' < m ∧ I m' e w, bk := A.nx } e w else A.nx e w) : aWhile ft fs A e w := while_X I A.nx m h0 hs fun _ _ h => h
theorem noOw_nil {e : En} : noOw e [] := fun v h => nomatch h
/-- elements and tests that change nothing -/
theorem lc_filt {g : PD → En → (En → Prop) → Prop} {ds : List PD} {vs ix : List Nat} (ev : En) (hev : wipeE e vs = ev) (f : PD → PD) (p : PD → Bool) (hz : ds.length ≤ 15000000) (hno : noOw e vs) (hix : ∀ i ∈ ix, i ∈ vs)
    (hs : ∀ d, d ∈ ds → ∀ (X : PD → En → W → Prop) (Y : En → W → Prop), (p d = true → ∀ e1, wipeE e1 vs = ev → X (f d) e1 w) → (p d = false → ∀ e1, wipeE e1 vs = ev → Y e1 w) → g d ev fun e1 => ft e1 w fun b e1 w => if b = true then fa e1 w X else Y e1 w)
    (q : Q (.lst ((ds.filter p).map f)) e w) : kkLc g ft fa vs ix ds Q e w := by
  subst hev
  refine ⟨hz, hno, hix, fun i acc w' => w' = w ∧ acc = ((ds.take i).filter p).map f, ⟨rfl, by simp⟩, ?_, ?_⟩
  · rintro i acc w' ⟨rfl, rfl⟩ hi _ d hd
    refine hs d (List.mem_of_getElem? hd) _ _ (fun hp e1 he => ?_) (fun hp e1 he => ?_)
    · exact ⟨he, rfl, by rw [take_succ_get hd, List.filter_append, List.map_append]; simp [hp]⟩
    · exact ⟨he, rfl, by rw [take_succ_get hd, List.filter_append, List.map_append]; simp [hp]⟩
  · rintro acc w' ⟨rfl, rfl⟩ _
    rw [List.take_length]; exact q
theorem lc_map {g : PD → En → (En → Prop) → Prop} {ds : List PD} {vs ix : List Nat} (ev : En) (hev : wipeE e vs = ev) (f : PD → PD) (hz : ds.length ≤ 15000000) (hno : noOw e vs) (hix : ∀ i ∈ ix, i ∈ vs)
    (hs : ∀ d, d ∈ ds → ∀ (X : PD → En → W → Prop), (∀ e1, wipeE e1 vs = ev → X (f d) e1 w) → g d ev fun e1 => fa e1 w X)
    (q : Q (.lst (ds.map f)) e w) : kkLc g aYes fa vs ix ds Q e w := by
  refine lc_filt ev hev f (fun _ => true) hz hno hix (fun d hd X Y hX hY => hs d hd X (hX rfl)) ?_
  rw [filter_true]; exact q
/-- sign by sign -/
theorem lc_signsD {g : PD → En → (En → Prop) → Prop} {z : Str} {vs ix : List Nat} (ev : En) (hev : wipeE e vs = ev) (f : Nat → PD) (hz : z.length ≤ 15000000) (hno : noOw e vs) (hix : ∀ i ∈ ix, i ∈ vs)
    (hs : ∀ c, c ∈ z.cps.toList → ∀ (X : PD → En → W → Prop), (∀ e1, wipeE e1 vs = ev → X (f c) e1 w) → g (.str ⟨#[c]⟩) ev fun e1 => fa e1 w X)
    (q : Q (.lst (z.cps.toList.map f)) e w) : kkLc g aYes fa vs ix (signsD z) Q e w := by
  refine lc_map ev hev (fun d => match d with | .str s => f (s.cps.getD 0 0) | _ => .non) (by simpa [signsD, Str.length] using hz) hno hix (fun d hd X hX => ?_) ?_
  · obtain ⟨c, hc, rfl⟩ := List.mem_map.mp hd
    exact hs c hc X hX
  · have e1 : (signsD z).map (fun d => match d with | .str s => f (s.cps.getD 0 0) | _ => .non) = z.cps.toList.map f := by simp [signsD]
    rw [e1]; exact q
/-- over a map of something -/
theorem lc_mapF {α : Type} {xs : List α} {k : α → PD} {g : PD → En → (En → Prop) → Prop} {vs ix : List Nat} (ev : En) (hev : wipeE e vs = ev) (f : α → PD) (hz : xs.length ≤ 15000000) (hno : noOw e vs) (hix : ∀ i ∈ ix, i ∈ vs)
    (hs : ∀ x, x ∈ xs → ∀ (X : PD → En → W → Prop), (∀ e1, wipeE e1 vs = ev → X (f x) e1 w) → g (k x) ev fun e1 => fa e1 w X)
    (q : Q (.lst (xs.map f)) e w) : kkLc g aYes fa vs ix (xs.map k) Q e w := by
  subst hev
  refine ⟨by rw [List.length_map]; exact hz, hno, hix, fun i acc w' => w' = w ∧ acc = (xs.take i).map f, ⟨rfl, by simp⟩, ?_, ?_⟩
  · rintro i acc w' ⟨rfl, rfl⟩ hi _ d hd
    rw [List.getElem?_map, Option.map_eq_some_iff] at hd
    obtain ⟨x, hx, rfl⟩ := hd
    exact hs x (List.mem_of_getElem? hx) _ fun e1 he => ⟨he, rfl, by rw [take_succ_get hx, List.map_append]; rfl⟩
  · rintro acc w' ⟨rfl, rfl⟩ _
    rw [List.length_map, List.take_length]; exact q
/-- .. some of them taken -/
theorem lc_filtF {α : Type} {xs : List α} {k : α → PD} {g : PD → En → (En → Prop) → Prop} {vs ix : List Nat} (ev : En) (hev : wipeE e vs = ev) (f : α → PD) (p : α → Bool) (hz : xs.length ≤ 15000000) (hno : noOw e vs) (hix : ∀ i ∈ ix, i ∈ vs)
    (hs : ∀ x, x ∈ xs → ∀ (X : PD → En → W → Prop) (Y : En → W → Prop), (p x = true → ∀ e1, wipeE e1 vs = ev → X (f x) e1 w) → (p x = false → ∀ e1, wipeE e1 vs = ev → Y e1 w) → g (k x) ev fun e1 => ft e1 w fun b e1 w => if b = true then fa e1 w X else Y e1 w)
    (q : Q (.lst ((xs.filter p).map f)) e w) : kkLc g ft fa vs ix (xs.map k) Q e w := by
  subst hev
  refine ⟨by rw [List.length_map]; exact hz, hno, hix, fun i acc w' => w' = w ∧ acc = ((xs.take i).filter p).map f, ⟨rfl, by simp⟩, ?_, ?_⟩
  · rintro i acc w' ⟨rfl, rfl⟩ hi _ d hd
    rw [List.getElem?_map, Option.map_eq_some_iff] at hd
    obtain ⟨x, hx, rfl⟩ := hd
    refine hs x (List.mem_of_getElem? hx) _ _ (fun hp e1 he => ?_) (fun hp e1 he => ?_)
    · exact ⟨he, rfl, by rw [take_succ_get hx, List.filter_append, List.map_append]; simp [hp]⟩
    · exact ⟨he, rfl, by rw [take_succ_get hx, List.filter_append, List.map_append]; simp [hp]⟩
  · rintro acc w' ⟨rfl, rfl⟩ _
    rw [List.length_map, List.take_length]; exact q
theorem noOw_dec {e : En} {vs : List Nat} (h : (vs.all fun v => match e[v]? with | some (some (.ow _)) => false | _ => true) = true) : noOw e vs := by
  intro v hv ds q
  have := List.all_eq_true.mp h v hv
  rw [q] at this; cases this
/-- with an invariant of what is made -/
theorem lc_inv {g : PD → En → (En → Prop) → Prop} {ds : List PD} {vs ix : List Nat} (ev : En) (hev : wipeE e vs = ev) (I : Nat → List PD → W → Prop) (h0 : I 0 [] w) (hz : ds.length ≤ 15000000) (hno : noOw e vs) (hix : ∀ i ∈ ix, i ∈ vs)
    (hs : ∀ i acc w d, I i acc w → i < ds.length → ds[i]? = some d → g d ev fun e1 => fa e1 w fun y e1 w => SzC (wipeE e1 vs = ev) ∧ I (i + 1) (acc ++ [y]) w)
    (q : ∀ acc w, I ds.length acc w → Q (.lst acc) e w) : kkLc g aYes fa vs ix ds Q e w := by
  subst hev
  exact ⟨hz, hno, hix, I, h0, fun i acc w hi hl _ d hd => hs i acc w d hi hl hd, fun acc w h _ => q acc w h⟩
end
end RS
set_option Elab.async false
set_option linter.all false
set_option maxRecDepth 100000
set_option maxHeartbeats 4000000
/-! Dz: zip over data. -/
namespace RS
open PySem L2 RZ
def zipD (ds es : List PD) : List PD := List.zipWith (fun a b => .tup [a, b]) ds es
theorem zipD_len (ds es : List PD) : (zipD ds es).length = min ds.length es.length := by unfold zipD; rw [List.length_zipWith]
theorem zipD_get {ds es : List PD} {i : Nat} {d : PD} (h : (zipD ds es)[i]? = some d) : ∃ a b, ds[i]? = some a ∧ es[i]? = some b ∧ d = .tup [a, b] := by
  unfold zipD at h
  rw [List.getElem?_zipWith] at h
  cases ha : ds[i]? with
  | none => simp [ha] at h
  | some a =>
    cases hb : es[i]? with
    | none => simp [ha, hb] at h
    | some b => simp [ha, hb] at h; exact ⟨a, b, rfl, rfl, h.symm⟩
section
variable {K : PySem.W.Frag} {Zf Z0 : AS1} {H0 : Hp} {a b : Addr} {ds es : List PD} {xs ys : List V}
theorem zip_step {Zx Z : AS1} {H H' : Hp} {i : Nat} {d : PD} {y : V} (h : Rps K Zx H ds xs) (h2 : Rps K Zx H es ys) (hd : (zipD ds es)[i]? = some d) (q : ∃ T x z, y = .ref T ∧ H T = none ∧ H' = upd H T (.tup [x, z]) ∧ xs[i]? = some x ∧ ys[i]? = some z) : Gr [] H H' ∧ Rp K Zx H' d y := by
  obtain ⟨c, e, hc, he, rfl⟩ := zipD_get hd
  obtain ⟨T, x, z, rfl, hT, rfl, h3, h4⟩ := q
  obtain ⟨x', hx, px⟩ := rps_get' h hc
  obtain ⟨z', hz, pz⟩ := rps_get' h2 he
  rw [h3] at hx; cases hx
  rw [h4] at hz; cases hz
  exact ⟨Gr.new hT, mk_tup upd_same (rps_cons (px.gr (Gr.new hT)) (rps_cons (pz.gr (Gr.new hT)) rps_nil))⟩
theorem it_zip (ha : H0 a = some (.lst xs)) (na : ¬ Z0 a) (h : Rps K (Zor Zf Z0) H0 ds xs) (hb : H0 b = some (.lst ys)) (nb : ¬ Z0 b) (h2 : Rps K (Zor Zf Z0) H0 es ys) : ItOk K (Itz K a b) (zipD ds es) Zf Z0 H0 := ⟨fun Zx Z H x k lv => by
  have ea := SqL.of (K := K) (x.keep _ _ ha na)
  have eb := SqL.of (K := K) (x.keep _ _ hb nb)
  have h' := Rps.nonZ h x k
  have h2' := Rps.nonZ h2 x k
  have l1 := rps_len h
  have l2 := rps_len h2
  refine ⟨fun i d hi => ?_, ?_⟩
  · have hlt : i < min xs.length ys.length := by rw [l1, l2, ← zipD_len]; exact (List.getElem?_eq_some_iff.mp hi).1
    exact ⟨(walk_zip rfl).goes i H hlt ⟨ea, eb⟩, fun y H' hq => zip_step (Z := Z) h' h2' hi ((walk_zip rfl).yields i H y H' hlt ⟨ea, eb⟩ hq)⟩
  · rw [zipD_len, ← l1, ← l2]; exact (walk_zip rfl).stops H ⟨ea, eb⟩⟩
theorem walk_zipT {a b : Addr} {xs ys : List V} {n : Nat} (hn : n = min xs.length ys.length) : Walk (ItzT K a b) n (fun H => SqT K H a xs ∧ SqT K H b ys) (YPair (fun i => xs[i]?) (fun i => ys[i]?)) := by
  have lt : ∀ i, i < n → i < xs.length ∧ i < ys.length := fun i hi => by omega
  refine Walk.mk (fun i Ht hi q => ⟨xs, ys, xs[i]'(lt i hi).1, ys[i]'(lt i hi).2, q.1, q.2, List.getElem?_eq_getElem (lt i hi).1, List.getElem?_eq_getElem (lt i hi).2⟩) (fun Ht q => ⟨xs, ys, q.1, q.2, by omega⟩) ?_
  rintro i Ht v Hu _ q ⟨tt, x, z, e1, e2, e3, e4, e5⟩
  exact ⟨tt, x, z, e1, e2, e3, e4 xs q.1, e5 ys q.2⟩
theorem it_zipT (ha : TupAt K H0 a xs) (h : Rps K (Zor Zf Z0) H0 ds xs) (hb : TupAt K H0 b ys) (h2 : Rps K (Zor Zf Z0) H0 es ys) : ItOk K (ItzT K a b) (zipD ds es) Zf Z0 H0 := ⟨fun Zx Z H x k lv => by
  have ea := (ha.ext x).sqT
  have eb := (hb.ext x).sqT
  have h' := Rps.nonZ h x k
  have h2' := Rps.nonZ h2 x k
  have l1 := rps_len h
  have l2 := rps_len h2
  refine ⟨fun i d hi => ?_, ?_⟩
  · have hlt : i < min xs.length ys.length := by rw [l1, l2, ← zipD_len]; exact (List.getElem?_eq_some_iff.mp hi).1
    exact ⟨(walk_zipT rfl).goes i H hlt ⟨ea, eb⟩, fun y H' hq => zip_step (Z := Z) h' h2' hi ((walk_zipT rfl).yields i H y H' hlt ⟨ea, eb⟩ hq)⟩
  · rw [zipD_len, ← l1, ← l2]; exact (walk_zipT rfl).stops H ⟨ea, eb⟩⟩
end
section
variable {W : Type} {M : WM W} {K : PySem.W.Frag} {XE : XK} {AX : XA W} {tA : TA} {fA : AA W} {e : En} {w : W}
def aiZip (fA : AA W) : AI W := fun e w Q => fA e w fun ds e w => ∃ xs ys, (ds = [.lst xs, .lst ys] ∨ ds = [.tup xs, .tup ys]) ∧ Q (zipD xs ys) e w
instance [la : LA M K XE AX tA fA] : LI M K XE AX (iZipA K tA) (aiZip fA) := ⟨fun r x q k =>
  la.run r x q fun d1 e1 w1 v1 H1 Zw1 os1 r1 x1 p1 q1 => by
    obtain ⟨ds, es, hd, q1⟩ := q1
    rcases hd with rfl | rfl
    · obtain ⟨a, as, rfl, pa, p1⟩ := rps_cons' p1
      obtain ⟨b, bs, rfl, pb, p1⟩ := rps_cons' p1
      obtain rfl := rps_nil' p1
      obtain ⟨a, xs, rfl, n, h3, h4⟩ := rp_lst pa
      obtain ⟨b, ys, rfl, n2, h5, h6⟩ := rp_lst pb
      exact ⟨a, b, xs, ys, rfl, .inl ⟨SqL.of h3, SqL.of h5, k _ _ _ _ _ _ _ r1 x1 (it_zip h3 (Zt_nm n) h4 h5 (Zt_nm n2) h6) q1⟩⟩
    · obtain ⟨a, as, rfl, pa, p1⟩ := rps_cons' p1
      obtain ⟨b, bs, rfl, pb, p1⟩ := rps_cons' p1
      obtain rfl := rps_nil' p1
      obtain ⟨a, xs, rfl, h3, h4⟩ := rp_tup pa
      obtain ⟨b, ys, rfl, h5, h6⟩ := rp_tup pb
      exact ⟨a, b, xs, ys, rfl, .inr ⟨h3.sqT, h5.sqT, k _ _ _ _ _ _ _ r1 x1 (it_zipT h3 h4 h5 h6) q1⟩⟩⟩
variable {QI : List PD → En → W → Prop}
def kkE2 (R : List PD → List PD → Prop) : List PD → Prop := fun ds => ∃ xs ys, (ds = [.lst xs, .lst ys] ∨ ds = [.tup xs, .tup ys]) ∧ R xs ys
instance : Stp (aiZip fA e w QI) (fA e w fun ds e w => kkE2 (fun xs ys => QI (zipD xs ys) e w) ds) := ⟨id⟩
instance {R : List PD → List PD → Prop} {xs ys : List PD} : Stp (kkE2 R [.lst xs, .lst ys]) (R xs ys) := ⟨fun h => ⟨xs, ys, .inl rfl, h⟩⟩
instance {R : List PD → List PD → Prop} {xs ys : List PD} : Stp (kkE2 R [.tup xs, .tup ys]) (R xs ys) := ⟨fun h => ⟨xs, ys, .inr rfl, h⟩⟩
instance {B C : Prop} {c : Bool} {dd : Decidable ((false || c) = true)} : Stp (@ite Prop ((false || c) = true) dd B C) (if c = true then B else C) := ⟨fun h => by cases c <;> simpa using h⟩
instance {B C : Prop} {c : Bool} {dd : Decidable ((true || c) = true)} : Stp (@ite Prop ((true || c) = true) dd B C) B := ⟨fun h => by simpa using h⟩
instance {P : PD → Prop} {xs : List PD} : Stp (abAll [.lst (xs.map fun _ => .bl true)] P) (P (.bl true)) := ⟨fun h => ⟨xs.map fun _ => true, by rw [List.map_map]; rfl, by rw [show (xs.map fun _ => true).all id = true from by rw [List.all_map, List.all_eq_true]; intros; rfl]; exact h⟩⟩
end
end RS
set_option Elab.async false
set_option linter.all false
set_option maxRecDepth 100000
set_option maxHeartbeats 4000000
/-! L1: texts cut at their first blank; figures without a leading nought -/
namespace RS
open PySem L2
theorem str_mk (l : List Nat) : TL.tl (⟨l.toArray⟩ : Str) = l := rfl
/-- a text has no blank, or is cut at its first -/
theorem text_forms (z : Str) : ¬ 32 ∈ TL.tl z ∨ ∃ a b : Str, z = a ++ (" " : Str) ++ b ∧ ¬ 32 ∈ TL.tl a := by
  have go : ∀ l : List Nat, ¬ 32 ∈ l ∨ ∃ p q, l = p ++ 32 :: q ∧ ¬ 32 ∈ p := by
    intro l
    induction l with
    | nil => exact .inl (by simp)
    | cons c r ih =>
      by_cases hc : c = 32
      · exact .inr ⟨[], r, by rw [hc]; rfl, by simp⟩
      · rcases ih with h | ⟨p, q, h1, h2⟩
        · exact .inl (by simp only [List.mem_cons, not_or]; exact ⟨fun e => hc e.symm, h⟩)
        · exact .inr ⟨c :: p, q, by rw [h1]; rfl, by simp only [List.mem_cons, not_or]; exact ⟨fun e => hc e.symm, h2⟩⟩
  rcases go (TL.tl z) with h | ⟨p, q, h1, h2⟩
  · exact .inl h
  · refine .inr ⟨⟨p.toArray⟩, ⟨q.toArray⟩, TL.ext_tl ?_, h2⟩
    rw [h1, TL.tl_append, TL.tl_append, tl_blank]
    show _ = (p ++ [32]) ++ q
    simp
theorem blank_at (z : Str) (i : Nat) : PySem.StrLaws.At z " " z.length i ↔ (TL.tl z)[i]? = some 32 := by
  rw [TL.at_iff (by rw [tl_blank]; simp), tl_blank]
  unfold TL.pre
  cases hd : (TL.tl z).drop i with
  | nil =>
    have : (TL.tl z)[i]? = none := by
      rw [List.getElem?_eq_none_iff]
      have := congrArg List.length hd
      rw [List.length_drop, List.length_nil] at this; omega
    rw [this]; simp
  | cons c r =>
    have : (TL.tl z)[i]? = some c := by
      have := congrArg (fun l => l[0]?) hd
      simpa using this
    rw [this]; simp
theorem find_none {z : Str} (h : ¬ 32 ∈ TL.tl z) : Txt.find z " " = -1 := by
  rcases PyProof.Rows.find_whole z " " with ⟨e, _⟩ | ⟨i, _, hi, _⟩
  · exact e
  · exact absurd (List.mem_of_getElem? ((blank_at z i).mp hi)) h
theorem find_app {a b : Str} (h : ¬ 32 ∈ TL.tl a) : Txt.find (a ++ (" " : Str) ++ b) " " = (a.length : Int) := by
  have hx : TL.tl (a ++ (" " : Str) ++ b) = TL.tl a ++ (32 :: TL.tl b) := by rw [TL.tl_append, TL.tl_append, tl_blank]; simp
  have mid : PySem.StrLaws.At (a ++ (" " : Str) ++ b) " " (a ++ (" " : Str) ++ b).length a.length := by
    rw [blank_at, hx, TL.len_tl]; simp
  rcases PyProof.Rows.find_whole (a ++ (" " : Str) ++ b) " " with ⟨_, hn⟩ | ⟨i, e, hi, hb⟩
  · exact absurd mid (hn _)
  · rw [e]
    have h1 := (blank_at _ i).mp hi
    rw [hx] at h1
    have h2 : ¬ i < (TL.tl a).length := fun hlt => by
      rw [List.getElem?_append_left hlt] at h1
      exact h (List.mem_of_getElem? h1)
    have h3 : ¬ a.length < i := fun hlt => hb _ hlt mid
    rw [TL.len_tl] at h3 ⊢
    congr 1; omega
/-- what _law_cut tells -/
def cutT (z : Str) : Str × Option Str := if 32 ∈ TL.tl z then ((Txt.partition z " ").1, some (Txt.partition z " ").2.2) else (z, none)
theorem cutT_none {z : Str} (h : ¬ 32 ∈ TL.tl z) : cutT z = (z, none) := by unfold cutT; rw [if_neg h]
theorem cutT_app {a b : Str} (h : ¬ 32 ∈ TL.tl a) : cutT (a ++ (" " : Str) ++ b) = (a, some b) := by
  unfold cutT
  rw [if_pos (by rw [TL.tl_append, TL.tl_append, tl_blank]; simp), part_app h]
/-- figures without a leading nought are what their number is written as -/
theorem num_back : ∀ (ds : List Nat), NumText.AllDigits ds → (∃ c r, ds = c :: r ∧ c ≠ 48) → TL.numL (NumText.digitsVal ds) = ds ∧ NumText.digitsVal ds ≠ 0 := by
  intro ds
  induction h : ds.length using Nat.strongRecOn generalizing ds with
  | _ n ih =>
    intro hd ⟨c, r, e, hc⟩
    subst e
    have hcd := hd c List.mem_cons_self
    rcases List.eq_nil_or_concat r with rfl | ⟨q, x, rfl⟩
    · have v : NumText.digitsVal [c] = c - 48 := by simp [NumText.digitsVal]
      rw [v]
      refine ⟨?_, by omega⟩
      rw [TL.numL_lt (by omega)]
      congr 1; omega
    · have hx := hd x (by simp)
      have hq : NumText.AllDigits (c :: q) := fun y hy => hd y (by
        rcases List.mem_cons.mp hy with rfl | hy
        · exact List.mem_cons_self
        · exact List.mem_cons_of_mem _ (by simp [hy]))
      obtain ⟨i1, i2⟩ := ih (c :: q).length (by rw [← h]; simp) (c :: q) rfl hq ⟨c, q, rfl, hc⟩
      have v : NumText.digitsVal (c :: (q ++ [x])) = NumText.digitsVal (c :: q) * 10 + (x - 48) := by
        rw [← List.cons_append]
        unfold NumText.digitsVal
        rw [List.foldl_append]; rfl
      rw [List.concat_eq_append, v]
      refine ⟨?_, by omega⟩
      rw [TL.numL_step (by omega), show (NumText.digitsVal (c :: q) * 10 + (x - 48)) / 10 = NumText.digitsVal (c :: q) by omega, i1,
        show 48 + (NumText.digitsVal (c :: q) * 10 + (x - 48)) % 10 = x by omega]
      rfl
end RS
set_option Elab.async false
set_option linter.all false
set_option maxRecDepth 100000
set_option maxHeartbeats 4000000
/-! L2r: the law's own reading of a value -/
namespace RS
open PySem L2
/-- behind an opening quote: the text up to the closing one, and what follows it -/
def parseQ : List Nat → List Nat → Option (List Nat × List Nat)
  | [], _ => none
  | c :: r, acc =>
    if c = 39 then some (acc, r)
    else if c = 92 then (match r with
      | [] => none
      | d :: r' => if d = 39 ∨ d = 92 then parseQ r' (acc ++ [d]) else none)
    else parseQ r (acc ++ [c])
theorem bare_plain {c : Nat} {r : List Nat} {f : Str} (h1 : c ≠ 39) (h2 : c ≠ 92) : bareGo (c :: r) f false = bareGo r (f ++ ⟨#[c]⟩) false := by
  rw [bareGo]
  have hb : (decide (c = 39) || decide (c = 92)) = false := by simp [h1, h2]
  simp [hb]
theorem bare_stroke {d : Nat} {r : List Nat} {f : Str} : bareGo (92 :: d :: r) f false = if d = 39 ∨ d = 92 then bareGo r (f ++ ⟨#[d]⟩) false else none := by
  have s1 : bareGo (92 :: d :: r) f false = bareGo (d :: r) f true := by rw [bareGo]; simp
  rw [s1, bareGo]
  by_cases h : d = 39 ∨ d = 92
  · have hb : (decide (d = 39) || decide (d = 92)) = true := by simpa using h
    rw [if_pos h]; simp [hb]
  · have hb : (decide (d = 39) || decide (d = 92)) = false := by simpa using h
    rw [if_neg h]; simp [hb]
theorem bare_stop {r : List Nat} {f : Str} : bareGo (39 :: r) f false = none := by rw [bareGo]; simp
theorem bare_half {f : Str} : bareGo [92] f false = none := by simp [bareGo]
theorem snoc_str (acc : List Nat) (c : Nat) : (⟨acc.toArray⟩ : Str) ++ (⟨#[c]⟩ : Str) = ⟨(acc ++ [c]).toArray⟩ := TL.ext_tl (by rw [TL.tl_append])
theorem parse_bare : ∀ (n : Nat) (r acc v rest : List Nat), r.length ≤ n → parseQ r acc = some (v, rest) → ∃ mid, r = mid ++ 39 :: rest ∧ bareGo mid ⟨acc.toArray⟩ false = some ⟨v.toArray⟩
  | n, [], acc, v, rest, _, h => by cases h
  | 0, c :: r, acc, v, rest, hn, _ => by simp at hn
  | n + 1, c :: r, acc, v, rest, hn, h => by
    rw [parseQ.eq_def] at h
    simp only [] at h
    split at h
    · rename_i hc
      simp only [Option.some.injEq, Prod.mk.injEq] at h
      obtain ⟨rfl, rfl⟩ := h
      exact ⟨[], by rw [hc]; rfl, rfl⟩
    · rename_i h39
      split at h
      · rename_i h92
        cases r with
        | nil => cases h
        | cons d r' =>
          simp only [] at h
          split at h
          · rename_i hd
            obtain ⟨mid, e1, e2⟩ := parse_bare n r' _ v rest (by simp only [List.length_cons] at hn; omega) h
            refine ⟨92 :: d :: mid, by rw [h92, e1]; rfl, ?_⟩
            rw [bare_stroke, if_pos hd, snoc_str]; exact e2
          · cases h
      · rename_i h92
        obtain ⟨mid, e1, e2⟩ := parse_bare n r _ v rest (by simp only [List.length_cons] at hn; omega) h
        refine ⟨c :: mid, by rw [e1]; rfl, ?_⟩
        rw [bare_plain h39 h92, snoc_str]; exact e2
theorem bare_parse : ∀ (n : Nat) (mid acc rest : List Nat) (g : Str), mid.length ≤ n → bareGo mid ⟨acc.toArray⟩ false = some g → parseQ (mid ++ 39 :: rest) acc = some (TL.tl g, rest)
  | n, [], acc, rest, g, _, h => by
    have h' : some (⟨acc.toArray⟩ : Str) = some g := h
    injection h' with h'
    subst h'
    rw [List.nil_append, parseQ.eq_def]
    simp only [if_true]
  | 0, c :: r, acc, rest, g, hn, _ => by simp at hn
  | n + 1, c :: r, acc, rest, g, hn, h => by
    by_cases h39 : c = 39
    · subst h39; rw [bare_stop] at h; cases h
    · by_cases h92 : c = 92
      · subst h92
        cases r with
        | nil => rw [bare_half] at h; cases h
        | cons d r' =>
          rw [bare_stroke] at h
          split at h
          · rename_i hd
            rw [snoc_str] at h
            have ih := bare_parse n r' _ rest g (by simp only [List.length_cons] at hn; omega) h
            rw [List.cons_append, parseQ.eq_def]
            simp only [List.cons_append]
            rw [if_neg (by decide), if_pos trivial, if_pos hd]
            exact ih
          · cases h
      · rw [bare_plain h39 h92, snoc_str] at h
        have ih := bare_parse n r _ rest g (by simp only [List.length_cons] at hn; omega) h
        rw [List.cons_append, parseQ.eq_def]
        simp only []
        rw [if_neg h39, if_neg h92]
        exact ih
/-- what _law_value_at tells of a text: its value and what follows it -/
def lValAt (w : Str) : Option (PD × Str) :=
  if cutS w none (some 1) = ("'" : Str) then
    (match parseQ ((TL.tl w).drop 1) [] with
    | none => none
    | some (v, rest) => if (decide (40 < v.length) || !isVal ⟨v.toArray⟩) = true then none else some (.str ⟨v.toArray⟩, ⟨rest.toArray⟩))
  else (match numberIn (cutT w).1 with
    | none => none
    | some n => some (.int n, ⟨((TL.tl w).drop (TL.tl (cutT w).1).length).toArray⟩))
end RS
set_option Elab.async false
set_option linter.all false
set_option maxRecDepth 100000
set_option maxHeartbeats 4000000
/-! L3: the law's reading of a whole value is the program's -/
namespace RS
open PySem L2
theorem bare_on : ∀ (n : Nat) (mid t : List Nat) (f g : Str), mid.length ≤ n → bareGo mid f false = some g → bareGo (mid ++ t) f false = bareGo t g false
  | n, [], t, f, g, _, h => by
    have h' : some f = some g := h
    injection h' with h'
    subst h'; rfl
  | 0, c :: r, t, f, g, hn, _ => by simp at hn
  | n + 1, c :: r, t, f, g, hn, h => by
    by_cases h39 : c = 39
    · subst h39; rw [bare_stop] at h; cases h
    · by_cases h92 : c = 92
      · subst h92
        cases r with
        | nil => rw [bare_half] at h; cases h
        | cons d r' =>
          rw [bare_stroke] at h
          split at h
          · rename_i hd
            rw [List.cons_append, List.cons_append, bare_stroke, if_pos hd]
            exact bare_on n r' t _ g (by simp only [List.length_cons] at hn; omega) h
          · cases h
      · rw [bare_plain h39 h92] at h
        rw [List.cons_append, bare_plain h39 h92]
        exact bare_on n r t _ g (by simp only [List.length_cons] at hn; omega) h
theorem quote_head {w : Str} (h : cutS w none (some 1) = ("'" : Str)) : ∃ r, TL.tl w = 39 :: r := by
  have e := congrArg TL.tl h
  rw [cut_first, tl_quote] at e
  cases hw : TL.tl w with
  | nil => rw [hw] at e; cases e
  | cons c r => rw [hw] at e; simp at e; exact ⟨r, by rw [e]⟩
theorem empty_str : (⟨([] : List Nat).toArray⟩ : Str) = ("" : Str) := TL.ext_tl (by rw [tl_empty])
/-- textIn at a text that begins with a quote -/
theorem textIn_quote {w : Str} {r : List Nat} (hw : TL.tl w = 39 :: r) : textIn w = (match r.getLast? with
    | some 39 => (match bareGo r.dropLast "" false with | none => none | some f => if (decide (40 < (f.length : Int)) || !isVal f) = true then none else some f)
    | _ => none) := by
  unfold textIn
  have f1 : first? w = some 39 := by unfold first?; rw [show w.cps.toList = 39 :: r from hw]; rfl
  rcases List.eq_nil_or_concat r with rfl | ⟨q, x, rfl⟩
  · have l1 : w.length = 1 := by rw [TL.len_tl, hw]; rfl
    rw [l1]; rfl
  · rw [List.concat_eq_append] at hw ⊢
    have f2 : last? w = some x := by
      unfold last?; rw [show w.cps.toList = (39 :: q) ++ [x] from hw]; exact List.getLast?_concat
    have l1 : w.length = q.length + 2 := by rw [TL.len_tl, hw]; simp
    have cm : (cutS w (some 1) (some (-1))).cps.toList = q := by
      have := cut_mid w
      rw [hw] at this
      rw [show (cutS w (some 1) (some (-1))).cps.toList = TL.tl (cutS w (some 1) (some (-1))) from rfl, this]
      simp
    rw [f1, f2, decide_eq_false (show ¬ (w.length : Int) < 2 by omega), List.getLast?_concat, List.dropLast_concat]
    by_cases hx : x = 39
    · subst hx
      unfold bareIn
      rw [cm]
      simp only [decide_true, Bool.not_true, Bool.or_false, Bool.false_eq_true, if_false]
      all_goals (cases bareGo q "" false <;> rfl)
    · have : decide (some x = some 39) = false := decide_eq_false (fun z => hx (by injection z))
      rw [this]
      simp only [Bool.not_false, Bool.or_true, if_true]
      split
      · rename_i z; injection z with z; exact absurd z hx
      · rfl
theorem num_free32 {w : Str} {n : Int} (h : numberIn w = some n) : ¬ 32 ∈ TL.tl w := by
  unfold numberIn at h
  split at h
  · rename_i hc
    simp only [Bool.and_eq_true] at hc
    obtain ⟨hd, _, _⟩ := figs_digits hc.1
    intro hm
    unfold figsOf at hd
    split at hd
    · rename_i hs
      obtain ⟨r, hr⟩ := starts_minus.mp hs
      rw [cut1 hr] at hd
      have hr' : TL.tl w = 45 :: r := hr
      rw [hr'] at hm
      rcases List.mem_cons.mp hm with e | hm
      · cases e
      · have := hd 32 hm; omega
    · have := hd 32 hm; omega
  · cases h
def wholeL (o : Option (PD × Str)) : PD := match o with
  | some (d, rest) => if TL.tl rest = [] then d else .non
  | none => .non
theorem lval_whole (w : Str) : wholeL (lValAt w) = valueIn w := by
  by_cases hq : cutS w none (some 1) = ("'" : Str)
  · obtain ⟨r, hw⟩ := quote_head hq
    rw [valueIn_text hq, textIn_quote hw]
    unfold lValAt
    rw [if_pos hq, hw, show (39 :: r).drop 1 = r from rfl]
    rcases List.eq_nil_or_concat r with rfl | ⟨q, x, rfl⟩
    · rfl
    rw [List.concat_eq_append, List.getLast?_concat, List.dropLast_concat]
    cases hp : parseQ (q ++ [x]) [] with
    | none =>
      show PD.non = _
      by_cases hx : x = 39
      · subst hx
        cases hb : bareGo q "" false with
        | none => simp only [hb]; rfl
        | some g =>
          have := bare_parse q.length q [] [] g (Nat.le_refl _) (by rw [empty_str]; exact hb)
          rw [hp] at this; cases this
      · split
        · rename_i z; injection z with z; exact absurd z hx
        · rfl
    | some vr =>
      obtain ⟨v, rest⟩ := vr
      obtain ⟨mid, e1, e2⟩ := parse_bare _ _ [] v rest (Nat.le_refl _) hp
      rw [empty_str] at e2
      rcases List.eq_nil_or_concat rest with rfl | ⟨rest', y, rfl⟩
      · have hqx : q = mid ∧ x = 39 := by
          have := List.append_inj' e1 rfl
          exact ⟨this.1, by have := this.2; simpa using this⟩
        obtain ⟨rfl, rfl⟩ := hqx
        simp only [e2]
        have hl : ((⟨v.toArray⟩ : Str).length : Int) = (v.length : Int) := by rw [TL.len_tl]
        rw [hl]
        have hd : decide (40 < (v.length : Int)) = decide (40 < v.length) := by
          by_cases h : 40 < v.length
          · rw [decide_eq_true h, decide_eq_true (by omega)]
          · rw [decide_eq_false h, decide_eq_false (by omega)]
        rw [hd]
        split
        · rfl
        · rfl
      · rw [List.concat_eq_append] at e1
        have hqx : q = mid ++ 39 :: rest' ∧ x = y := by
          have e3 : mid ++ 39 :: (rest' ++ [y]) = (mid ++ 39 :: rest') ++ [y] := by simp
          rw [e3] at e1
          have := List.append_inj' e1 rfl
          exact ⟨this.1, by have := this.2; simpa using this⟩
        obtain ⟨rfl, rfl⟩ := hqx
        have hb : bareGo (mid ++ 39 :: rest') "" false = none := by rw [bare_on _ mid _ _ _ (Nat.le_refl _) e2, bare_stop]
        have lhs : wholeL (match some (v, rest'.concat x) with
            | none => none
            | some (v, rest) => if (decide (40 < v.length) || !isVal ⟨v.toArray⟩) = true then none else some (.str ⟨v.toArray⟩, ⟨rest.toArray⟩)) = .non := by
          simp only []
          split
          · rfl
          · show (if TL.tl (⟨(rest'.concat x).toArray⟩ : Str) = [] then _ else PD.non) = _
            rw [if_neg (by rw [str_mk, List.concat_eq_append]; simp)]
        rw [lhs]
        simp only [hb]
        split <;> rfl
  · rw [valueIn_num hq]
    unfold lValAt
    rw [if_neg hq]
    rcases text_forms w with h | ⟨a, b, rfl, h⟩
    · rw [cutT_none h]
      cases hn : numberIn w with
      | none => rfl
      | some n =>
        show (if TL.tl (⟨((TL.tl w).drop (TL.tl w).length).toArray⟩ : Str) = [] then _ else _) = _
        rw [str_mk, List.drop_length, if_pos rfl]; rfl
    · rw [cutT_app h]
      have hnone : numberIn (a ++ (" " : Str) ++ b) = none := by
        cases hn : numberIn (a ++ (" " : Str) ++ b) with
        | none => rfl
        | some n =>
          have := num_free32 hn
          rw [TL.tl_append, TL.tl_append, tl_blank] at this
          simp at this
      rw [hnone]
      cases hn : numberIn a with
      | none => rfl
      | some n =>
        show (if TL.tl (⟨((TL.tl (a ++ (" " : Str) ++ b)).drop (TL.tl a).length).toArray⟩ : Str) = [] then _ else PD.non) = _
        rw [if_neg]
        · rfl
        · rw [str_mk, TL.tl_append, TL.tl_append, tl_blank]; simp
end RS
set_option Elab.async false
set_option linter.all false
set_option maxRecDepth 100000
set_option maxHeartbeats 4000000
/-! L4: a value and the slot behind it, read from the left and from the right -/
namespace RS
open PySem L2
theorem last_forms (z : Str) : ¬ 32 ∈ TL.tl z ∨ ∃ a s : Str, z = a ++ (" " : Str) ++ s ∧ ¬ 32 ∈ TL.tl s := by
  have go : ∀ l : List Nat, ¬ 32 ∈ l ∨ ∃ p q, l = p ++ 32 :: q ∧ ¬ 32 ∈ q := by
    intro l
    induction l with
    | nil => exact .inl (by simp)
    | cons c r ih =>
      rcases ih with h | ⟨p, q, h1, h2⟩
      · by_cases hc : c = 32
        · exact .inr ⟨[], r, by rw [hc]; rfl, h⟩
        · exact .inl (by simp only [List.mem_cons, not_or]; exact ⟨fun e => hc e.symm, h⟩)
      · exact .inr ⟨c :: p, q, by rw [h1]; rfl, h2⟩
  rcases go (TL.tl z) with h | ⟨p, q, h1, h2⟩
  · exact .inl h
  · refine .inr ⟨⟨p.toArray⟩, ⟨q.toArray⟩, TL.ext_tl ?_, h2⟩
    rw [h1, TL.tl_append, TL.tl_append, tl_blank]
    show _ = (p ++ [32]) ++ q
    simp
theorem last_one : ∀ {p q s t : List Nat}, p ++ 32 :: s = q ++ 32 :: t → ¬ 32 ∈ s → ¬ 32 ∈ t → p = q ∧ s = t
  | [], [], s, t, h, _, _ => ⟨rfl, by simpa using h⟩
  | [], c :: q, s, t, h, hs, _ => by
    simp only [List.nil_append, List.cons_append, List.cons.injEq] at h
    exact absurd (by rw [h.2]; simp) hs
  | c :: p, [], s, t, h, _, ht => by
    simp only [List.nil_append, List.cons_append, List.cons.injEq] at h
    exact absurd (by rw [← h.2]; simp) ht
  | c :: p, d :: q, s, t, h, hs, ht => by
    simp only [List.cons_append, List.cons.injEq] at h
    obtain ⟨e1, e2⟩ := last_one h.2 hs ht
    exact ⟨by rw [h.1, e1], e2⟩
theorem lval_suffix {w rest : Str} {d : PD} (h : lValAt w = some (d, rest)) : ∃ p, TL.tl w = p ++ TL.tl rest := by
  unfold lValAt at h
  split at h
  · rename_i hq
    obtain ⟨r, hw⟩ := quote_head hq
    rw [hw, show (39 :: r).drop 1 = r from rfl] at h
    split at h
    · cases h
    · rename_i v rs hp
      split at h
      · cases h
      · simp only [Option.some.injEq, Prod.mk.injEq] at h
        obtain ⟨_, rfl⟩ := h
        obtain ⟨mid, e1, _⟩ := parse_bare _ _ [] v rs (Nat.le_refl _) hp
        exact ⟨39 :: (mid ++ [39]), by rw [hw, e1, str_mk]; simp⟩
  · split at h
    · cases h
    · simp only [Option.some.injEq, Prod.mk.injEq] at h
      obtain ⟨_, rfl⟩ := h
      exact ⟨(TL.tl w).take (TL.tl (cutT w).1).length, by rw [str_mk, List.take_append_drop]⟩
def lSetTail (more : Str) : Option (PD × Str) := match lValAt more with
  | none => none
  | some (d, rest) => match TL.tl rest with
    | [] => none
    | c :: s => if c = 32 then (if isName ⟨s.toArray⟩ = true then some (d, ⟨s.toArray⟩) else none) else none
def pSetTail (more : Str) : Option (PD × Str) := match valueIn (Txt.rpartition more " ").1 with
  | .non => none
  | v => if isName (Txt.rpartition more " ").2.2 = true then some (v, (Txt.rpartition more " ").2.2) else none
theorem rpart_none {z : Str} (h : ¬ 32 ∈ TL.tl z) : Txt.rpartition z " " = (Str.empty, Str.empty, z) := by
  unfold Txt.rpartition
  rcases PySem.StrLaws.last_spec z " " with ⟨e, _⟩ | ⟨i, _, hi, _⟩
  · rw [e]
  · exact absurd (List.mem_of_getElem? ((blank_at z i).mp hi)) h
theorem lset_open {more : Str} {d : PD} {s : Str} (h : lSetTail more = some (d, s)) : isName s = true ∧ ∃ rest, lValAt more = some (d, rest) ∧ TL.tl rest = 32 :: TL.tl s := by
  unfold lSetTail at h
  split at h
  · cases h
  · rename_i d' rest hv
    split at h
    · cases h
    · rename_i c s' hr
      split at h
      · rename_i hc
        split at h
        · rename_i hn
          simp only [Option.some.injEq, Prod.mk.injEq] at h
          obtain ⟨rfl, rfl⟩ := h
          exact ⟨hn, rest, hv, by rw [hr, hc]⟩
        · cases h
      · cases h
theorem lset_close {more rest s : Str} {d : PD} (h1 : lValAt more = some (d, rest)) (h2 : TL.tl rest = 32 :: TL.tl s) (h3 : isName s = true) : lSetTail more = some (d, s) := by
  have e : (⟨(TL.tl s).toArray⟩ : Str) = s := TL.mk_tl s
  unfold lSetTail
  simp only [h1, h2]
  rw [if_pos trivial, e, if_pos h3]
end RS
set_option Elab.async false
set_option linter.all false
set_option maxRecDepth 100000
set_option maxHeartbeats 4000000
/-! L5: set rows' tails are read alike -/
namespace RS
open PySem L2
theorem tl_bl (a s : Str) : TL.tl (a ++ (" " : Str) ++ s) = TL.tl a ++ 32 :: TL.tl s := by rw [TL.tl_append, TL.tl_append, tl_blank]; simp
/-- a whole value, then a blank and a slot -/
theorem lval_on {a s : Str} {d : PD} {e : Str} (h : lValAt a = some (d, e)) (he : TL.tl e = []) : ∃ rest, lValAt (a ++ (" " : Str) ++ s) = some (d, rest) ∧ TL.tl rest = 32 :: TL.tl s := by
  unfold lValAt at h
  split at h
  · rename_i hq
    obtain ⟨r, hw⟩ := quote_head hq
    rw [hw, show (39 :: r).drop 1 = r from rfl] at h
    split at h
    · cases h
    · rename_i v rs hp
      split at h
      · cases h
      · rename_i hc
        simp only [Option.some.injEq, Prod.mk.injEq] at h
        obtain ⟨rfl, rfl⟩ := h
        rw [str_mk] at he
        subst he
        obtain ⟨mid, e1, e2⟩ := parse_bare _ _ [] v [] (Nat.le_refl _) hp
        have hm : TL.tl (a ++ (" " : Str) ++ s) = 39 :: (mid ++ 39 :: (32 :: TL.tl s)) := by rw [tl_bl, hw, e1]; simp
        have hq2 : cutS (a ++ (" " : Str) ++ s) none (some 1) = ("'" : Str) := TL.ext_tl (by rw [cut_first, hm, tl_quote]; rfl)
        refine ⟨⟨(32 :: TL.tl s).toArray⟩, ?_, str_mk _⟩
        have hp2 := bare_parse mid.length mid [] (32 :: TL.tl s) ⟨v.toArray⟩ (Nat.le_refl _) e2
        unfold lValAt
        rw [if_pos hq2, hm, show (39 :: (mid ++ 39 :: (32 :: TL.tl s))).drop 1 = mid ++ 39 :: (32 :: TL.tl s) from rfl, hp2]
        simp only [str_mk]
        rw [if_neg hc]
  · rename_i hq
    split at h
    · cases h
    · rename_i n hn
      simp only [Option.some.injEq, Prod.mk.injEq] at h
      obtain ⟨rfl, rfl⟩ := h
      rw [str_mk] at he
      have hb : ¬ 32 ∈ TL.tl a := by
        rcases text_forms a with h | ⟨x, y, rfl, h⟩
        · exact h
        · rw [cutT_app h, tl_bl] at he
          simp at he
      rw [cutT_none hb] at hn
      have hq2 : ¬ cutS (a ++ (" " : Str) ++ s) none (some 1) = ("'" : Str) := by
        intro e
        obtain ⟨r, hw⟩ := quote_head e
        rw [tl_bl] at hw
        cases ha : TL.tl a with
        | nil => rw [ha] at hw; injection hw with h1 _; cases h1
        | cons c r' =>
          rw [ha] at hw
          injection hw with h1 _
          subst h1
          exact hq (TL.ext_tl (by rw [cut_first, ha, tl_quote]; rfl))
      refine ⟨⟨(32 :: TL.tl s).toArray⟩, ?_, str_mk _⟩
      unfold lValAt
      rw [if_neg hq2, cutT_app hb]
      simp only [hn]
      rw [tl_bl]
      simp
/-- behind a value a blank and a slot: the value is whole -/
theorem lval_back {a s rest : Str} {d : PD} (hs : ¬ 32 ∈ TL.tl s) (h : lValAt (a ++ (" " : Str) ++ s) = some (d, rest)) (hr : TL.tl rest = 32 :: TL.tl s) : ∃ e, lValAt a = some (d, e) ∧ TL.tl e = [] := by
  unfold lValAt at h
  split at h
  · rename_i hq
    obtain ⟨r, hw⟩ := quote_head hq
    rw [hw, show (39 :: r).drop 1 = r from rfl] at h
    split at h
    · cases h
    · rename_i v rs hp
      split at h
      · cases h
      · rename_i hc
        simp only [Option.some.injEq, Prod.mk.injEq] at h
        obtain ⟨rfl, rfl⟩ := h
        rw [str_mk] at hr
        subst hr
        obtain ⟨mid, e1, e2⟩ := parse_bare _ _ [] v _ (Nat.le_refl _) hp
        have hm : TL.tl a ++ 32 :: TL.tl s = (39 :: (mid ++ [39])) ++ 32 :: TL.tl s := by rw [← tl_bl, hw, e1]; simp
        have ha := (last_one hm hs hs).1
        have hq2 : cutS a none (some 1) = ("'" : Str) := TL.ext_tl (by rw [cut_first, ha, tl_quote]; rfl)
        have hp2 := bare_parse mid.length mid [] [] ⟨v.toArray⟩ (Nat.le_refl _) e2
        refine ⟨⟨([] : List Nat).toArray⟩, ?_, str_mk _⟩
        unfold lValAt
        rw [if_pos hq2, ha, show (39 :: (mid ++ [39])).drop 1 = mid ++ 39 :: [] from rfl, hp2]
        simp only [str_mk]
        rw [if_neg hc]
  · rename_i hq
    split at h
    · cases h
    · rename_i n hn
      simp only [Option.some.injEq, Prod.mk.injEq] at h
      obtain ⟨rfl, rfl⟩ := h
      rw [str_mk] at hr
      have hb : ¬ 32 ∈ TL.tl a := by
        rcases text_forms a with h | ⟨x, y, rfl, h⟩
        · exact h
        · have e : x ++ (" " : Str) ++ y ++ (" " : Str) ++ s = x ++ (" " : Str) ++ (y ++ (" " : Str) ++ s) := TL.ext_tl (by simp only [TL.tl_append, List.append_assoc])
          rw [e, cutT_app h, tl_bl, List.drop_left] at hr
          injection hr with _ hr
          rw [tl_bl] at hr
          exact absurd (by rw [← hr]; simp) hs
      rw [cutT_app hb] at hn
      have hq2 : ¬ cutS a none (some 1) = ("'" : Str) := by
        intro e
        obtain ⟨r, hw⟩ := quote_head e
        exact hq (TL.ext_tl (by rw [cut_first, tl_bl, hw, tl_quote]; rfl))
      refine ⟨⟨([] : List Nat).toArray⟩, ?_, str_mk _⟩
      unfold lValAt
      rw [if_neg hq2, cutT_none hb]
      simp only [hn, List.drop_length]
/-- the law's reading of a set row's tail is the program's -/
theorem set_tail (more : Str) : lSetTail more = pSetTail more := by
  rcases last_forms more with h | ⟨a, s, rfl, hs⟩
  · have hp : pSetTail more = none := by
      unfold pSetTail
      rw [rpart_none h]
      have : valueIn Str.empty = .non := by
        rw [show Str.empty = ("" : Str) from TL.ext_tl (by rw [tl_empty]; rfl)]
        rw [valueIn_num (by decide +kernel), show numberIn ("" : Str) = none by decide +kernel]; rfl
      rw [this]
    rw [hp]
    cases hl : lSetTail more with
    | none => rfl
    | some ds =>
      obtain ⟨d, s⟩ := ds
      obtain ⟨_, rest, h1, h2⟩ := lset_open hl
      obtain ⟨p, e⟩ := lval_suffix h1
      exact absurd (by rw [e, h2]; simp) h
  · unfold pSetTail
    rw [rpart_app hs]
    simp only []
    by_cases hn : isName s = true
    · cases hv : lValAt a with
      | none =>
        have e := lval_whole a
        rw [hv] at e
        rw [← e]
        cases hl : lSetTail (a ++ (" " : Str) ++ s) with
        | none => rfl
        | some ds =>
          obtain ⟨d, s'⟩ := ds
          obtain ⟨hn', rest, h1, h2⟩ := lset_open hl
          obtain ⟨p, ep⟩ := lval_suffix h1
          rw [tl_bl, h2] at ep
          have := (last_one ep hs (name_free hn')).2
          rw [← this] at h2
          obtain ⟨e', h3, _⟩ := lval_back hs h1 h2
          rw [hv] at h3; cases h3
      | some de =>
        obtain ⟨d, e0⟩ := de
        have e := lval_whole a
        rw [hv] at e
        by_cases he : TL.tl e0 = []
        · have e' : valueIn a = d := by rw [← e]; show (if TL.tl e0 = [] then d else _) = d; rw [if_pos he]
          obtain ⟨rest, h1, h2⟩ := lval_on (s := s) hv he
          rw [lset_close h1 h2 hn, e']
          have hd : d ≠ .non := by
            unfold lValAt at hv
            split at hv
            · split at hv
              · cases hv
              · split at hv
                · cases hv
                · simp only [Option.some.injEq, Prod.mk.injEq] at hv; rw [← hv.1]; exact fun z => nomatch z
            · split at hv
              · cases hv
              · simp only [Option.some.injEq, Prod.mk.injEq] at hv; rw [← hv.1]; exact fun z => nomatch z
          cases d with
          | non => exact absurd rfl hd
          | _ => simp only [hn, if_true]
        · have e' : valueIn a = .non := by rw [← e]; show (if TL.tl e0 = [] then d else _) = _; rw [if_neg he]
          rw [e']
          cases hl : lSetTail (a ++ (" " : Str) ++ s) with
          | none => rfl
          | some ds =>
            obtain ⟨d', s'⟩ := ds
            obtain ⟨hn', rest, h1, h2⟩ := lset_open hl
            obtain ⟨p, ep⟩ := lval_suffix h1
            rw [tl_bl, h2] at ep
            have := (last_one ep hs (name_free hn')).2
            rw [← this] at h2
            obtain ⟨e1, h3, h4⟩ := lval_back hs h1 h2
            rw [hv] at h3
            injection h3 with h3
            injection h3 with _ h3
            rw [h3] at he
            exact absurd h4 he
    · skip
      cases hl : lSetTail (a ++ (" " : Str) ++ s) with
      | none => cases valueIn a <;> simp [hn]
      | some ds =>
        obtain ⟨d', s'⟩ := ds
        obtain ⟨hn', rest, h1, h2⟩ := lset_open hl
        obtain ⟨p, ep⟩ := lval_suffix h1
        rw [tl_bl, h2] at ep
        have := (last_one ep hs (name_free hn')).2
        have e : s = s' := TL.ext_tl this
        rw [e] at hn
        exact absurd hn' hn
end RS
set_option Elab.async false
set_option linter.all false
set_option maxRecDepth 100000
set_option maxHeartbeats 4000000
/-! L6: a step's row and a setting's row are read alike -/
namespace RS
open PySem L2
/-- _law_is_name of a cut's second part -/
def lName : Option Str → Bool
  | none => false
  | some s => isName s
def lSet (rest : Str) : PD := match (cutT rest).2 with
  | none => .non
  | some more => if isName (cutT rest).1 = true then (match lSetTail more with
    | none => .non
    | some (d, s) => .tup [.str "set", .str (cutT rest).1, d, .str s]) else .non
def lStep (row : Str) : PD :=
  if inV (.str row) alone = true then .tup [.str row]
  else if inV (.str (cutT row).1) withName = true ∧ lName (cutT row).2 = true then .tup [.str (cutT row).1, .str ((cutT row).2.getD "")]
  else if (cutT row).1 = ("set" : Str) then (match (cutT row).2 with | none => .non | some rest => lSet rest) else .non
theorem empty_eq : Str.empty = ("" : Str) := TL.ext_tl (by rw [tl_empty]; rfl)
theorem val_empty : valueIn ("" : Str) = .non := by rw [valueIn_num (by decide +kernel), show numberIn ("" : Str) = none by decide +kernel]; rfl
theorem set_alike (rest : Str) : lSet rest = setIn rest := by
  unfold lSet setIn
  rcases text_forms rest with h | ⟨a, b, rfl, h⟩
  · rw [cutT_none h, part_none h]
    simp only []
    rw [rpart_none (by simp [empty_eq, tl_empty])]
    simp only [empty_eq, val_empty]
  · rw [cutT_app h, part_app h]
    simp only []
    rw [set_tail]
    unfold pSetTail
    cases hn : isName a with
    | false =>
      rw [if_neg (by decide)]
      cases valueIn (Txt.rpartition b " ").1 <;> simp
    | true =>
      rw [if_pos rfl]
      cases hs : isName (Txt.rpartition b " ").2.2 with
      | false => cases valueIn (Txt.rpartition b " ").1 <;> simp
      | true => cases valueIn (Txt.rpartition b " ").1 <;> simp
theorem alone_mem {z : Str} (h : inV (.str z) alone = true) : z = ("begin" : Str) ∨ z = ("late" : Str) ∨ z = ("pass" : Str) := by
  have e : alone = (["begin", "late", "pass"] : List Str).map V.str := rfl
  have q : ∀ (s : Str) (l : List Str), inV (.str s) (l.map V.str) = decide (s ∈ l) := by
    intro s l
    induction l with
    | nil => rfl
    | cons a r ih =>
      rw [List.map_cons, inv_cons, ih, eqV_str]
      by_cases h : a = s <;> by_cases h2 : s ∈ r <;> simp [h, h2, eq_comm]
      intro e; exact absurd e.symm h
  rw [e, q, decide_eq_true_eq] at h
  simpa using h
theorem step_alike (row : Str) : lStep row = stepIn row := by
  unfold lStep stepIn
  by_cases ha : inV (.str row) alone = true
  · rw [if_pos ha]
    rcases alone_mem ha with rfl | rfl | rfl <;>
      (rw [part_none (by decide +kernel)]; simp only []; rw [if_neg (by decide +kernel), if_neg (by simp only [Bool.and_eq_true, not_and]; intro h; exact absurd h (by decide +kernel)), if_pos ha])
  · rw [if_neg ha]
    rcases text_forms row with h | ⟨a, b, rfl, h⟩
    · rw [cutT_none h, part_none h]
      simp only [lName]
      rw [if_neg (by simp)]
      by_cases hs : row = ("set" : Str)
      · rw [if_pos hs, if_pos hs]
        rw [← set_alike]
        unfold lSet
        rw [cutT_none (by simp [empty_eq, tl_empty])]
      · rw [if_neg hs, if_neg hs, if_neg (by simp [empty_eq, show isName ("" : Str) = false by decide +kernel]), if_neg ha]
    · rw [cutT_app h, part_app h]
      simp only [lName, Option.getD_some]
      by_cases hs : a = ("set" : Str)
      · subst hs
        rw [if_neg (by intro h; exact absurd h.1 (by decide +kernel)), if_pos rfl, if_pos rfl, set_alike]
      · rw [if_neg hs, if_neg hs]
        by_cases hw : inV (.str a) withName = true ∧ isName b = true
        · rw [if_pos hw, if_pos (by simp [hw.1, hw.2])]
        · rw [if_neg hw, if_neg (by simpa using hw), if_neg ha]
end RS
set_option Elab.async false
set_option linter.all false
set_option maxRecDepth 100000
set_option maxHeartbeats 4000000
/-! L7: a setting's row is read alike -/
namespace RS
open PySem L2
def lSetting (row : Str) : PD := if (cutT row).1 = ("setting" : Str) then (match (cutT row).2 with
  | none => .non
  | some rest => match (cutT rest).2 with
    | none => if isName (cutT rest).1 = true then .tup [.str (cutT rest).1, .non] else .non
    | some w => if isName (cutT rest).1 = true then (match wholeL (lValAt w) with | .non => .non | v => .tup [.str (cutT rest).1, v]) else .non) else .non
theorem setting_alike (row : Str) : lSetting row = settingIn row := by
  unfold lSetting settingIn
  simp only []
  rcases text_forms row with h | ⟨a, b, rfl, h⟩
  · rw [cutT_none h, part_none h]
    simp only []
    by_cases hs : row = ("setting" : Str)
    · rw [if_pos hs]
      rw [if_pos]
      rw [empty_eq, part_none (by simp [tl_empty])]
      simp [show isName ("" : Str) = false by decide +kernel]
    · rw [if_neg hs, if_pos (by simp [hs])]
  · rw [cutT_app h, part_app h]
    simp only []
    by_cases hs : a = ("setting" : Str)
    · rw [if_pos hs]
      rcases text_forms b with h2 | ⟨x, y, rfl, h2⟩
      · rw [cutT_none h2, part_none h2]
        simp only []
        by_cases hn : isName b = true
        · rw [if_pos hn, if_neg (by simp [hs, hn]), if_neg (by rw [empty_eq]; decide +kernel)]
        · rw [if_neg hn, if_pos (by simp [hn])]
      · rw [cutT_app h2, part_app h2]
        simp only []
        by_cases hn : isName x = true
        · rw [if_pos hn, if_neg (by simp [hs, hn]), if_pos trivial, lval_whole]
          all_goals (cases valueIn y <;> rfl)
        · rw [if_neg hn, if_pos (by simp [hn])]
    · rw [if_neg hs, if_pos (by simp [hs])]
end RS
set_option Elab.async false
set_option linter.all false
set_option maxRecDepth 100000
set_option maxHeartbeats 4000000
/-! L8: figures written anew are the figures, where no nought leads -/
namespace RS
open PySem L2
theorem num_text {w : Str} (hd : NumText.AllDigits (TL.tl w)) (hne : TL.tl w ≠ []) :
    decide (Str.ofString (toString ((NumText.digitsVal (TL.tl w) : Nat) : Int)) = w) = !(lead0 w && !decide (w = ("0" : Str))) := by
  have e := TL.tl_num (NumText.digitsVal (TL.tl w))
  cases hw : TL.tl w with
  | nil => exact absurd hw hne
  | cons c r =>
    have l0 : lead0 w = decide (c = 48) := by unfold lead0; rw [show w.cps.toList = c :: r from hw]
    rw [hw] at e hd
    by_cases hc : c = 48
    · subst hc
      by_cases hr : r = []
      · subst hr
        have w0 : w = ("0" : Str) := TL.ext_tl (by rw [hw]; decide +kernel)
        subst w0
        decide +kernel
      · have hw0 : w ≠ ("0" : Str) := by
          intro z
          rw [z, show TL.tl ("0" : Str) = [48] by decide +kernel] at hw
          injection hw with _ h; exact hr h.symm
        rw [l0, decide_eq_true rfl, decide_eq_false hw0]
        refine decide_eq_false fun z => ?_
        rw [z, hw] at e
        by_cases h0 : NumText.digitsVal (48 :: r) = 0
        · rw [h0, TL.numL_lt (by decide)] at e
          injection e with _ h; exact hr h
        · obtain ⟨c', r', e2, hc'⟩ := numL_head _ h0
          rw [e2] at e
          injection e with h _; exact hc' h.symm
    · rw [l0, decide_eq_false hc]
      obtain ⟨h1, _⟩ := num_back (c :: r) hd ⟨c, r, rfl, hc⟩
      rw [h1] at e
      exact decide_eq_true (TL.ext_tl (by rw [e, hw]))
end RS
set_option Elab.async false
set_option linter.all false
set_option maxRecDepth 100000
set_option maxHeartbeats 4000000
/-! L9: picks and numbers by their own writing -/
namespace RS
open PySem L2
def lPick (w : Str) : Option Int := if (figsOk w 4 && decide (Str.ofString (toString ((NumText.digitsVal (TL.tl w) : Nat) : Int)) = w)) = true then some ((NumText.digitsVal (TL.tl w) : Nat) : Int) else none
theorem pick_alike (w : Str) : lPick w = pickIn w := by
  unfold lPick pickIn
  cases hf : figsOk w 4 with
  | false => rfl
  | true =>
    obtain ⟨hd, hn, _⟩ := figs_digits hf
    rw [num_text hd hn]
def lNum (w : Str) : Option Int := if (figsOk (figsOf w) 30 && decide (Str.ofString (toString (numVal w)) = w)) = true then some (numVal w) else none
theorem num_alike (w : Str) : lNum w = numberIn w := by
  unfold lNum numberIn
  cases hf : figsOk (figsOf w) 30 with
  | false => rfl
  | true =>
    obtain ⟨hd, hn, _⟩ := figs_digits hf
    have key : decide (Str.ofString (toString (numVal w)) = w) = !(lead0 (figsOf w) && !decide (w = ("0" : Str))) := by
      by_cases hm : Txt.startswith w "-" = true
      · obtain ⟨r, hr⟩ := starts_minus.mp hm
        have hw : TL.tl w = 45 :: r := hr
        have ef : TL.tl (figsOf w) = r := by unfold figsOf; rw [if_pos hm]; exact cut1 hr
        have hw0 : w ≠ ("0" : Str) := by
          intro z
          rw [z, show TL.tl ("0" : Str) = [48] by decide +kernel] at hw
          injection hw with h _; cases h
        have nv : numVal w = -((NumText.digitsVal r : Nat) : Int) := by unfold numVal; rw [if_pos hm, show (figsOf w).cps.toList = r from ef]
        rw [decide_eq_false hw0, Bool.not_false, Bool.and_true, nv]
        rw [show (figsOf w).cps.toList = r from ef] at hd hn
        cases hr2 : r with
        | nil => exact absurd hr2 hn
        | cons c q =>
          rw [hr2] at ef hd hw
          have l0 : lead0 (figsOf w) = decide (c = 48) := by unfold lead0; rw [show (figsOf w).cps.toList = c :: q from ef]
          rw [l0]
          by_cases hc : c = 48
          · subst hc
            rw [decide_eq_true rfl]
            refine decide_eq_false fun z => ?_
            have e := congrArg TL.tl z
            rw [hw] at e
            by_cases h0 : NumText.digitsVal (48 :: q) = 0
            · rw [h0, show TL.tl (Str.ofString (toString (-((0 : Nat) : Int)))) = [48] by decide +kernel] at e
              injection e with h _; cases h
            · rw [neg_text _ h0] at e
              injection e with _ e
              obtain ⟨c', r', e2, hc'⟩ := numL_head _ h0
              rw [e2] at e
              injection e with h _; exact hc' h
          · rw [decide_eq_false hc]
            obtain ⟨h1, h2⟩ := num_back (c :: q) hd ⟨c, q, rfl, hc⟩
            exact decide_eq_true (TL.ext_tl (by rw [neg_text _ h2, h1, hw]))
      · have ef : figsOf w = w := by unfold figsOf; rw [if_neg hm]
        rw [ef] at hd hn ⊢
        have nv : numVal w = ((NumText.digitsVal (TL.tl w) : Nat) : Int) := by unfold numVal; rw [if_neg hm]
        rw [nv]
        exact num_text hd hn
    rw [key]
end RS
set_option Elab.async false
set_option linter.all false
set_option maxRecDepth 100000
set_option maxHeartbeats 4000000
/-! L10: the shape of read steps, whatever the steps are -/
namespace RS
open PySem L2
inductive Shape : Int → List PD → List (Int × PD) → Prop
  | nil {d : Int} : Shape d [] []
  | plain {d : Int} {st : PD} {pr : List PD} {l : List (Int × PD)} : inBlocks st = false → Shape d pr l → Shape d (st :: pr) ((d, st) :: l)
  | block {d : Int} {st : PD} {body pr : List PD} {lb l : List (Int × PD)} : inBlocks st = true → Shape (d + 1) body lb → Shape d pr l → Shape d (addW st body :: pr) ((d, st) :: (lb ++ l))
theorem Shape.low {d : Int} {p : List PD} {l : List (Int × PD)} (h : Shape d p l) : ∀ q ∈ l, d ≤ q.1 := by
  induction h with
  | nil => exact fun q h => nomatch h
  | plain b _ ih =>
    intro q hq
    rcases List.mem_cons.mp hq with rfl | hq
    · exact Int.le_refl _
    · exact ih q hq
  | block b _ _ ihb ih =>
    intro q hq
    rcases List.mem_cons.mp hq with rfl | hq
    · exact Int.le_refl _
    · rcases List.mem_append.mp hq with hq | hq
      · have := ihb q hq; omega
      · exact ih q hq
theorem Shape.first {d : Int} {p : List PD} {e : Int} {st : PD} {r : List (Int × PD)} (h : Shape d p ((e, st) :: r)) : e = d := by
  cases h <;> rfl
theorem prog_shape {d : Int} {p : List PD} {l : List (Int × PD)} (h : Shape d p l) : ∀ rest : List (Int × PD), (∀ e st r, rest = (e, st) :: r → e < d) → progC (l ++ rest) d = (p, rest) := by
  induction h with
  | nil =>
    intro rest h
    cases rest with
    | nil => exact progC_nil _
    | cons q r =>
      obtain ⟨e, st⟩ := q
      exact progC_other (by have := h e st r rfl; omega)
  | @plain d st pr l b _ ih =>
    intro rest h
    rw [List.cons_append, progC_plain b, ih rest h]
  | @block d st body pr lb l b hb fl' ihb ih =>
    intro rest h
    rw [List.cons_append, List.append_assoc]
    have hin : progC (lb ++ (l ++ rest)) (d + 1) = (body, l ++ rest) := ihb (l ++ rest) (by
      intro e st' r he
      cases l with
      | nil => have := h e st' r he; omega
      | cons q l' =>
        rw [List.cons_append] at he
        injection he with he _
        subst he
        have := fl'.first; omega)
    rw [progC_block b, hin, ih rest h]
end RS
set_option Elab.async false
set_option linter.all false
set_option maxRecDepth 100000
set_option maxHeartbeats 4000000
/-! L11: read steps have a shape -/
namespace RS
open PySem L2
inductive Disc : Int → List (Int × PD) → Prop
  | nil {m : Int} : Disc m []
  | cons {m e : Int} {st : PD} {r : List (Int × PD)} : e ≤ m → Disc (e + (if inBlocks st then 1 else 0)) r → Disc m ((e, st) :: r)
theorem disc_of : ∀ {rs : List Str} {m : Int} {l : List (Int × PD)}, rowsGo rs m = some l → Disc m l
  | [], m, l, h => by simp only [rowsGo, Option.some.injEq] at h; subst h; exact .nil
  | r :: rs, m, l, h => by
    unfold rowsGo at h
    split at h
    · cases h
    rename_i d st hone
    split at h
    · cases h
    rename_i l' hl'
    simp only [Option.some.injEq] at h
    subst h
    obtain ⟨_, _, hde, _, hm⟩ := rowOne_ok hone
    exact .cons (by omega) (disc_of hl')
theorem Disc.at_ {m d : Int} {l : List (Int × PD)} (h : Disc m l) (hl : ∀ e st r, l = (e, st) :: r → e ≤ d) : Disc d l := by
  cases h with
  | nil => exact .nil
  | cons he hr => exact .cons (hl _ _ _ rfl) hr
theorem shape_cut : ∀ (n : Nat) (l : List (Int × PD)) (d : Int), l.length ≤ n → Disc d l → ∃ p l1 l2, l = l1 ++ l2 ∧ Shape d p l1 ∧ (∀ e st r, l2 = (e, st) :: r → e < d) ∧ (∃ m, Disc m l2)
  | n, [], d, _, _ => ⟨[], [], [], rfl, .nil, (fun e st r h => nomatch h), 0, .nil⟩
  | 0, q :: r, d, h, _ => by simp at h
  | n + 1, (e, st) :: r, d, h, hd => by
    have hd0 := hd
    cases hd with
    | cons he hr =>
      by_cases hed : e = d
      · subst hed
        cases hb : inBlocks st with
        | false =>
          rw [hb] at hr
          obtain ⟨p, l1, l2, e1, s1, h2, m, d2⟩ := shape_cut n r e (by simpa using h) (by simpa using hr)
          exact ⟨st :: p, (e, st) :: l1, l2, by rw [e1]; rfl, .plain hb s1, h2, m, d2⟩
        | true =>
          rw [hb] at hr
          obtain ⟨body, lb, r2, e1, s1, h2, m, d2⟩ := shape_cut n r (e + 1) (by simpa using h) (by simpa using hr)
          have hlen : r2.length ≤ n := by
            have := congrArg List.length e1
            rw [List.length_append] at this
            simp only [List.length_cons] at h; omega
          obtain ⟨p, l1, l2, e3, s3, h3, m3, d3⟩ := shape_cut n r2 e hlen (d2.at_ fun e' st' r' hh => by have := h2 e' st' r' hh; omega)
          exact ⟨addW st body :: p, (e, st) :: (lb ++ l1), l2, by rw [e1, e3]; simp, .block hb s1 s3, h3, m3, d3⟩
      · exact ⟨[], [], (e, st) :: r, rfl, .nil, (fun e' st' r' hh => by injection hh with hh _; injection hh with hh _; omega), d, hd0⟩
theorem blanks_nonneg (r : Str) : 0 ≤ blanksOf r := by unfold blanksOf; have := lstrip_len r " "; omega
theorem deep_nonneg : ∀ {rs : List Str} {m : Int} {l : List (Int × PD)}, rowsGo rs m = some l → ∀ p ∈ l, 0 ≤ p.1
  | [], m, l, h => by simp only [rowsGo, Option.some.injEq] at h; subst h; exact fun p hp => nomatch hp
  | r :: rs, m, l, h => by
    unfold rowsGo at h
    split at h
    · cases h
    rename_i d st hone
    split at h
    · cases h
    rename_i l' hl'
    simp only [Option.some.injEq] at h
    subst h
    obtain ⟨_, _, hde, _, _⟩ := rowOne_ok hone
    intro p hp
    rcases List.mem_cons.mp hp with rfl | hp
    · have := blanks_nonneg r; show 0 ≤ d; omega
    · exact deep_nonneg hl' p hp
/-- read rows have a shape from depth nought on -/
theorem rows_shape {rs : List Str} {l : List (Int × PD)} (h : rowsGo rs 0 = some l) : ∃ p, Shape 0 p l ∧ progC l 0 = (p, []) := by
  obtain ⟨p, l1, l2, e, s, h2, _⟩ := shape_cut l.length l 0 (Nat.le_refl _) (disc_of h)
  have : l2 = [] := by
    cases l2 with
    | nil => rfl
    | cons q r =>
      obtain ⟨e', st⟩ := q
      have h3 := h2 e' st r rfl
      have h4 := deep_nonneg h (e', st) (by rw [e]; simp)
      have h5 : (0 : Int) ≤ e' := h4
      omega
  subst this
  rw [List.append_nil] at e
  subst e
  refine ⟨p, s, ?_⟩
  have := prog_shape s [] (fun e st r hh => nomatch hh)
  rw [List.append_nil] at this
  exact this
end RS
set_option Elab.async false
set_option linter.all false
set_option maxRecDepth 100000
set_option maxHeartbeats 4000000
/-! L12: the law's building of the program -/
namespace RS
open PySem L2
/-- _law_built: the steps that lie deeper behind a step are its own -/
def builtAt : Nat → List (Int × PD) → Int → List PD
  | _, [], _ => []
  | 0, _, _ => []
  | n + 1, (e, st) :: r, d => (if inBlocks st = true then addW st (builtAt n (r.takeWhile fun q => decide (d < q.1)) (d + 1)) else st) :: builtAt n (r.dropWhile fun q => decide (d < q.1)) d
theorem take_deep {d : Int} : ∀ {lb l : List (Int × PD)}, (∀ q ∈ lb, d < q.1) → (∀ e st r, l = (e, st) :: r → e ≤ d) → (lb ++ l).takeWhile (fun q => decide (d < q.1)) = lb ∧ (lb ++ l).dropWhile (fun q => decide (d < q.1)) = l
  | [], [], _, _ => ⟨rfl, rfl⟩
  | [], (e, st) :: r, _, h => by
    have := h e st r rfl
    have hf : decide (d < e) = false := decide_eq_false (by omega)
    refine ⟨?_, ?_⟩
    · rw [List.nil_append, List.takeWhile_cons_of_neg (by simp only [hf]; exact Bool.false_ne_true)]
    · rw [List.nil_append, List.dropWhile_cons_of_neg (by simp only [hf]; exact Bool.false_ne_true)]
  | q :: lb, l, hq, h => by
    have h1 := hq q List.mem_cons_self
    obtain ⟨i1, i2⟩ := take_deep (fun x hx => hq x (List.mem_cons_of_mem _ hx)) h
    refine ⟨?_, ?_⟩
    · rw [List.cons_append, List.takeWhile_cons_of_pos (by simp only [decide_eq_true_eq]; exact h1), i1]
    · rw [List.cons_append, List.dropWhile_cons_of_pos (by simp only [decide_eq_true_eq]; exact h1), i2]
theorem built_shape {d : Int} {p : List PD} {l : List (Int × PD)} (h : Shape d p l) : ∀ n : Nat, l.length ≤ n → builtAt n l d = p := by
  induction h with
  | nil => intro n _; cases n <;> rfl
  | @plain d st pr l b s ih =>
    intro n hn
    cases n with
    | zero => simp at hn
    | succ n =>
      have hh : ∀ e st r, l = (e, st) :: r → e ≤ d := fun e st r hl => by subst hl; have := s.first; omega
      obtain ⟨_, i2⟩ := take_deep (lb := []) (fun q hq => nomatch hq) hh
      rw [List.nil_append] at i2
      rw [builtAt, i2, ih n (by simpa using hn), if_neg (by rw [b]; exact Bool.false_ne_true)]
  | @block d st body pr lb l b hb s ihb ih =>
    intro n hn
    cases n with
    | zero => simp at hn
    | succ n =>
      simp only [List.length_cons, List.length_append] at hn
      have hh : ∀ e st r, l = (e, st) :: r → e ≤ d := fun e st r hl => by subst hl; have := s.first; omega
      obtain ⟨i1, i2⟩ := take_deep (lb := lb) (fun q hq => by have := hb.low q hq; omega) hh
      rw [builtAt, i1, i2, ihb n (by omega), ih n (by omega), if_pos b]
end RS
set_option Elab.async false
set_option linter.all false
set_option maxRecDepth 100000
set_option maxHeartbeats 4000000
/-! L13: a row's blanks and what stands behind them -/
namespace RS
open PySem L2
theorem strip_tl (r : Str) : ∃ k : Nat, k ≤ (TL.tl r).length ∧ TL.tl (Txt.lstripChars r " ") = (TL.tl r).drop k ∧ blanksOf r = (k : Int) := by
  have e : TL.tl (Txt.lstripChars r " ") = (TL.tl r).drop (PySem.stripLo (" " : Str).cps.contains true r) := by
    unfold Txt.lstripChars
    rw [PyProof.Rows.stripBy_eq]
    unfold PySem.stripHi
    rw [if_neg Bool.false_ne_true, TL.tl_strSub_end]
  have hle : PySem.stripLo (" " : Str).cps.contains true r ≤ (TL.tl r).length := by
    unfold PySem.stripLo
    rw [if_pos rfl]
    exact (List.takeWhile_sublist _).length_le
  refine ⟨_, hle, e, ?_⟩
  unfold blanksOf
  rw [TL.len_tl, TL.len_tl (Txt.lstripChars r " "), e, List.length_drop]
  omega
theorem strip_cut (r : Str) : cutS r (some (blanksOf r)) none = Txt.lstripChars r " " := by
  obtain ⟨k, hk, e, hb⟩ := strip_tl r
  refine TL.ext_tl ?_
  rw [hb, tl_cut_from, e]
/-- one row as the law reads it -/
def lRow (r : Str) (most : Int) : Option (Int × PD) := match lStep (cutS r (some (blanksOf r)) none) with
  | .non => none
  | st => if (decide (blanksOf r % 2 = 1) || decide (2 * most < blanksOf r)) = true then none else some (blanksOf r / 2, st)
theorem row_alike (r : Str) (most : Int) : lRow r most = rowOne r most := by
  unfold lRow rowOne
  rw [strip_cut, step_alike]
  obtain ⟨k, _, _, hb⟩ := strip_tl r
  have hc : (decide (blanksOf r % 2 = 1) || decide (2 * most < blanksOf r)) = (decide (0 < blanksOf r % 2) || decide (most < blanksOf r / 2)) := by
    rw [hb]
    by_cases h1 : (k : Int) % 2 = 1
    · rw [decide_eq_true h1, decide_eq_true (show (0 : Int) < (k : Int) % 2 by omega)]; rfl
    · rw [decide_eq_false h1, decide_eq_false (show ¬ (0 : Int) < (k : Int) % 2 by omega)]
      by_cases h2 : 2 * most < (k : Int)
      · rw [decide_eq_true h2, decide_eq_true (show most < (k : Int) / 2 by omega)]
      · rw [decide_eq_false h2, decide_eq_false (show ¬ most < (k : Int) / 2 by omega)]
  rw [hc]
  all_goals (cases stepIn (Txt.lstripChars r " ") <;> rfl)
end RS
set_option Elab.async false
set_option linter.all false
set_option maxRecDepth 100000
set_option maxHeartbeats 4000000
/-! L14: sizes of what figures write; signs -/
namespace RS
open PySem L2
theorem digits_lt : ∀ (n : Nat) (cs : List Nat), cs.length = n → NumText.AllDigits cs → NumText.digitsVal cs < 10 ^ n
  | 0, cs, h, _ => by rw [List.eq_nil_of_length_eq_zero h]; decide
  | n + 1, cs, h, hd => by
    rcases List.eq_nil_or_concat cs with rfl | ⟨r, c, rfl⟩
    · cases h
    · rw [List.concat_eq_append] at *
      rw [NumText.digitsVal_snoc]
      have hr := digits_lt n r (by simpa using h) (fun x hx => hd x (List.mem_append_left _ hx))
      have hc := hd c (List.mem_append_right _ List.mem_cons_self)
      rw [Nat.pow_succ]
      omega
theorem figs_len (w : Str) : (figsOf w).length ≤ w.length := by
  unfold figsOf
  split
  · exact cutS_len _ _ _
  · exact Nat.le_refl _
theorem pow_le {a b : Nat} (h : a ≤ b) : 10 ^ a ≤ 10 ^ b := Nat.pow_le_pow_right (by decide) h
theorem log_of {n : Nat} (h : n < 10 ^ 31) : n.log2 < 1920 := by
  by_cases h0 : n = 0
  · subst h0; decide
  · exact Nat.lt_of_lt_of_le ((Nat.log2_lt h0).mpr (Nat.lt_of_lt_of_le h (show (10 : Nat) ^ 31 ≤ 2 ^ 1919 by decide))) (by decide)
theorem num_lt {w : Str} (h : figsOk (figsOf w) 30 = true) : (numVal w).natAbs < 10 ^ 30 := by
  obtain ⟨hd, hne, hl⟩ := figs_digits h
  have hl' : (figsOf w).cps.toList.length ≤ 30 := by have : (figsOf w).length = (figsOf w).cps.toList.length := by simp [Str.length]
                                                     omega
  have h1 := digits_lt _ _ rfl hd
  have h2 := pow_le hl'
  unfold numVal
  split
  · omega
  · rename_i hm
    have e : figsOf w = w := by unfold figsOf; rw [if_neg hm]
    rw [e] at h1 h2
    omega
theorem num_log {w : Str} (h : figsOk (figsOf w) 30 = true) : (numVal w).natAbs.log2 < 1920 := log_of (Nat.lt_trans (num_lt h) (by decide))
theorem figs4_log {w : Str} {n : Int} (hn : n ≤ 30) (h : figsOk w n = true) : (NumText.digitsVal w.cps.toList).log2 < 1920 := by
  obtain ⟨hd, hne, hl⟩ := figs_digits h
  have hl' : w.cps.toList.length ≤ 30 := by have : w.length = w.cps.toList.length := by simp [Str.length]
                                            omega
  have h1 := digits_lt _ _ rfl hd
  have h2 := pow_le hl'
  exact log_of (by have : (10:Nat)^30 < 10^31 := by decide
                   omega)
theorem first_minus {w : Str} : decide (cutS w none (some 1) = ("-" : Str)) = Txt.startswith w "-" := by
  rw [Bool.eq_iff_iff, decide_eq_true_eq, starts_minus]
  have t1 : TL.tl ("-" : Str) = [45] := by decide +kernel
  constructor
  · intro h
    have h := congrArg TL.tl h
    rw [show (some (1 : Int)) = some ((1 : Nat) : Int) from rfl, tl_cut_to, t1] at h
    cases hw : TL.tl w with
    | nil => rw [hw] at h; cases h
    | cons c r =>
      rw [hw] at h; simp at h; subst h
      exact ⟨r, hw⟩
  · rintro ⟨r, h⟩
    have h : TL.tl w = 45 :: r := h
    refine TL.ext_tl ?_
    rw [show (some (1 : Int)) = some ((1 : Nat) : Int) from rfl, tl_cut_to, h, t1]
    rfl
end RS
set_option Elab.async false
set_option linter.all false
set_option maxRecDepth 100000
set_option maxHeartbeats 4000000

namespace RS
open PySem L2
structure TX (K : PySem.W.Frag) (mg : Str → Option Value) where
  z_len : mg "len" = none
  z_all : mg "all" = none
  z_sum : mg "sum" = none
  z_abs : mg "abs" = none
  z_divmod : mg "divmod" = none
  z_isinstance : mg "isinstance" = none
  z_sorted : mg "sorted" = none
  z_int : mg "int" = none
  z_str : mg "str" = none
  z_list : mg "list" = none
  z_tuple : mg "tuple" = none
  z_bool : mg "bool" = none
  z_set : mg "set" = none
  z_range : mg "range" = none
  z_enumerate : mg "enumerate" = none
  z_zip : mg "zip" = none
  z_max : mg "max" = none
  z_min : mg "min" = none
  k_ALONE : { a : Addr // mg "ALONE" = some (.ref a) ∧ ∀ H : Hp, SqT K H a [(.str "begin"), (.str "late"), (.str "pass")] }
  k_BLOCKS : { a : Addr // mg "BLOCKS" = some (.ref a) ∧ ∀ H : Hp, SqT K H a [(.str "begin"), (.str "late"), (.str "in")] }
  k_FIGURES : { t : Tok // mg "FIGURES" = some (.str "0123456789" t) }
  k_INSET : { t : Tok // mg "INSET" = some (.str "  " t) }
  k_LETTERS : { t : Tok // mg "LETTERS" = some (.str "abcdefghijklmnopqrstuvwxyz" t) }
  k_MOST_FIGURES_sheet : { t : Tok // mg "MOST_FIGURES_sheet" = some (.int 4 t) }
  k_MOST_FIGURES_texts : { t : Tok // mg "MOST_FIGURES_texts" = some (.int 30 t) }
  k_MOST_LETTERS : { t : Tok // mg "MOST_LETTERS" = some (.int 8 t) }
  k_MOST_SIGNS : { t : Tok // mg "MOST_SIGNS" = some (.int 40 t) }
  k_QUOTE : { t : Tok // mg "QUOTE" = some (.str "'" t) }
  k_SETTING : { t : Tok // mg "SETTING" = some (.str "setting" t) }
  k_STROKE : { t : Tok // mg "STROKE" = some (.str "\\" t) }
  k_TASK : { t : Tok // mg "TASK" = some (.str "task" t) }
  k_WEAVE : { t : Tok // mg "WEAVE" = some (.str "weave" t) }
  k_WITH_NAME : { a : Addr // mg "WITH_NAME" = some (.ref a) ∧ ∀ H : Hp, SqT K H a [(.str "look"), (.str "back"), (.str "copy"), (.str "in")] }
  e_BadRow : ErT K mg "BadRow" "RoadError" "what" "BadRow.__init__" s_BadRow___init__
  C_Known : Addr
  g_Known : mg "Known" = some (.ref C_Known)
  C_Missing : Addr
  g_Missing : mg "Missing" = some (.ref C_Missing)
  C_NoSetting : Addr
  g_NoSetting : mg "NoSetting" = some (.ref C_NoSetting)
  C_NoTask : Addr
  g_NoTask : mg "NoTask" = some (.ref C_NoTask)
  C_NoWorld : Addr
  g_NoWorld : mg "NoWorld" = some (.ref C_NoWorld)
  z_ValueError : mg "ValueError" = none
  x_exm : PySem.W.exmOne K (.ref e_BadRow.C) (.ref e_BadRow.C0) = some true
  x_xc : XcC K e_BadRow.C
  x_any : PySem.W.kitAny K (.ref e_BadRow.C) [.ref C_Known, .ref C_Missing, .ref C_NoSetting, .ref C_NoTask, .ref C_NoWorld] = some false
  x_one : PySem.W.kitOne K (.ref e_BadRow.C) (.ref e_BadRow.C) = some true
  x_val : PySem.W.kitOne K (.ref e_BadRow.C) (.type "ValueError") = some true
  d_is_name : FnT K mg "is_name" "is_name" s_is_name ["thing"]
  d_is_number : FnT K mg "is_number" "is_number" s_is_number ["thing"]
  d_is_value : FnT K mg "is_value" "is_value" s_is_value ["thing"]
  d_number_in : FnT K mg "number_in" "number_in" s_number_in ["word"]
  d_bare_in : FnT K mg "bare_in" "bare_in" s_bare_in ["quoted"]
  d_text_in : FnT K mg "text_in" "text_in" s_text_in ["word"]
  d_value_in : FnT K mg "value_in_texts" "value_in" s_value_in ["word"]
  d_set_in : FnT K mg "set_in" "set_in" s_set_in ["rest"]
  d_step_in : FnT K mg "step_in" "step_in" s_step_in ["row"]
  d_rows_read : FnT K mg "rows_read" "rows_read" s_rows_read ["rows", "first"]
  d_program_at : FnT K mg "program_at" "program_at" s_program_at ["found", "at", "depth"]
  d_setting_in : FnT K mg "setting_in" "setting_in" s_setting_in ["row"]
  d_pick_in : FnT K mg "pick_in" "pick_in" s_pick_in ["word"]
  d_picks_in : FnT K mg "picks_in" "picks_in" s_picks_in ["row"]
  d_settings_in : FnT K mg "settings_in" "settings_in" s_settings_in ["rows"]
  d_look_settings : FnT K mg "look_settings" "look_settings" s_look_settings ["settings"]
  d_look_names : FnT K mg "look_names" "look_names" s_look_names ["settings", "steps", "first"]
  d_sheet_from : FnT K mg "sheet_from" "sheet_from" s_sheet_from ["text"]
  d_sheet_woven : FnT K mg "sheet_woven" "sheet_woven" s_sheet_woven ["text"]
  d_answers : FnT K mg "answers" "answers" s_answers ["text"]
  d_turns_text : FnT K mg "turns_text" "turns_text" s_turns_text ["text"]
  d_law_refused : FnT K mg "_law_refused" "_law_refused" s_law_refused ["_law_told", "_law_text"]
  d_law_cell_at : FnT K mg "_law_cell_at" "_law_cell_at" s_law_cell_at ["_law_script", "_law_k"]
  d_law_box : FnT K mg "_law_box" "_law_box" s_law_box ["_law_script", "_law_k"]
  d_law_take : FnT K mg "_law_take" "_law_take" s_law_take ["_law_box_here", "_law_many"]
  d_law_names : FnT K mg "_law_names" "_law_names" s_law_names ["_law_box_here", "_law_many"]
  d_law_value : FnT K mg "_law_value" "_law_value" s_law_value ["_law_box_here"]
  d_law_program : FnT K mg "_law_program" "_law_program" s_law_program ["_law_box_here", "_law_names_here", "_law_slots", "_law_many", "_law_blocks"]
  d_law_written : FnT K mg "_law_written" "_law_written" s_law_written ["_law_value_here"]
  d_law_rows : FnT K mg "_law_rows" "_law_rows" s_law_rows ["_law_program_here", "_law_blanks"]
  d_law_same : FnT K mg "_law_same" "_law_same" s_law_same ["_law_found", "_law_due"]
  d_law_cut : FnT K mg "_law_cut" "_law_cut" s_law_cut ["_law_text"]
  d_law_is_name : FnT K mg "_law_is_name" "_law_is_name" s_law_is_name ["_law_word"]
  d_law_number_at : FnT K mg "_law_number_at" "_law_number_at" s_law_number_at ["_law_text"]
  d_law_value_at : FnT K mg "_law_value_at" "_law_value_at" s_law_value_at ["_law_text"]
  d_law_step : FnT K mg "_law_step" "_law_step" s_law_step ["_law_row"]
  d_law_read : FnT K mg "_law_read" "_law_read" s_law_read ["_law_rows_here"]
  d_law_built : FnT K mg "_law_built" "_law_built" s_law_built ["_law_found", "_law_depth"]
  d_law_setting : FnT K mg "_law_setting" "_law_setting" s_law_setting ["_law_row"]
  d_law_picks : FnT K mg "_law_picks" "_law_picks" s_law_picks ["_law_row"]
  d_law_sheet : FnT K mg "_law_sheet" "_law_sheet" s_law_sheet ["_law_text"]
  d_law_good : FnT K mg "_law_good" "_law_good" s_law_good ["_law_box_here"]
  d_law_with_fault : FnT K mg "_law_with_fault" "_law_with_fault" s_law_with_fault ["_law_box_here", "_law_rows_here", "_law_name"]
end RS
set_option Elab.async false
set_option linter.all false
set_option maxRecDepth 100000
set_option maxHeartbeats 4000000

namespace RS
open PySem L2
/-! steps by their heads -/
local macro_rules | `(tactic| walk_at "fr") => `(tactic| first
  | assumption
  | exact SqL.of (by assumption)
  | exact SqT.of (by assumption)
  | exact Or.inl (by assumption)
  | exact Or.inr (by assumption)
  | (refine Gr.get (by assumption) ?_ (by walk_at "nin"); walk_at "fr")
  | (refine Gr.tup (by assumption) _ _ ?_; walk_at "fr")
  | (refine SqL.of ?_; walk_at "fr1")
  | (refine SqT.of ?_; walk_at "fr1")
  | (refine Gr.sqL (by assumption) ?_ (by walk_at "nin"); walk_at "fr")
  | (refine Gr.sqT (by assumption) ?_ (by walk_at "nin"); walk_at "fr")
  | (refine Gr.rep0 (by assumption) ?_; walk_at "fr")
  | (refine Gr.reps0 (by assumption) ?_; walk_at "fr"))
local macro_rules | `(tactic| walk_at "fr1") => `(tactic| first
  | assumption
  | (refine Gr.tup (by assumption) _ _ ?_; walk_at "fr1")
  | (refine Gr.get (by assumption) ?_ (by walk_at "nin"); walk_at "fr1"))
local macro_rules | `(tactic| walk_at "nin") => `(tactic| first
  | exact nin_nil
  | assumption
  | (refine nin_one ?_; walk_at "ne"))
local macro_rules | `(tactic| walk_at "ne") => `(tactic| first
  | assumption
  | exact Ne.symm (by assumption)
  | exact ne_new (by assumption) (by assumption)
  | exact Ne.symm (ne_new (by assumption) (by assumption)))
local macro_rules | `(tactic| walk_at "sz") => `(tactic| first
  | assumption
  | exact rfl
  | omega
  | (simp only [List.length_cons, List.length_nil, List.length_append, List.length_map, CDiv, CDivN, CMul]; omega)
  | decide
  | (constructor <;> first | exact rfl | omega | assumption | (simp only [List.length_cons, List.length_nil, List.length_append, List.length_map]; omega) | decide))
local macro_rules | `(tactic| walk_at "i1") => `(tactic| first
  | ((with_reducible refine' isi_L_list ?vh ?_); (case vh => walk_at "fr"))
  | ((with_reducible refine' isi_T_list ?vh ?_); (case vh => walk_at "fr"))
  | ((with_reducible refine' isi_L_tuple ?vh ?_); (case vh => walk_at "fr"))
  | ((with_reducible refine' isi_T_tuple ?vh ?_); (case vh => walk_at "fr"))
  | ((with_reducible refine' isi_L_str ?vh ?_); (case vh => walk_at "fr"))
  | ((with_reducible refine' isi_T_str ?vh ?_); (case vh => walk_at "fr"))
  | ((with_reducible refine' isi_L_int ?vh ?_); (case vh => walk_at "fr"))
  | ((with_reducible refine' isi_T_int ?vh ?_); (case vh => walk_at "fr"))
  | ((with_reducible refine' isi_L_bool ?vh ?_); (case vh => walk_at "fr"))
  | ((with_reducible refine' isi_T_bool ?vh ?_); (case vh => walk_at "fr")))
local macro_rules | `(tactic| walk_at "s") => `(tactic| repeat (first
  | with_reducible refine Stp.h ?_
  | ((with_reducible refine szc ?_ ?_); walk_at "sz")
  | ((with_reducible refine' w_kTyL ?vh ?_); (case vh => walk_at "fr"))
  | ((with_reducible refine' w_lenL ?vh ?_); (case vh => walk_at "fr"))
  | ((with_reducible refine' w_lenT ?vh ?_); (case vh => walk_at "fr"))))
local macro_rules | `(tactic| walk_at "gr") => `(tactic| first
  | exact Gr.refl _ _
  | assumption
  | exact Gr.wide (by assumption)
  | (refine Gr.trans ?_ (by assumption); walk_at "gr")
  | (refine Gr.trans ?_ (Gr.wide (by assumption)); walk_at "gr"))
local macro_rules | `(tactic| walk_at "s2") => `(tactic| (with_reducible refine Stp.h ?_; with_reducible refine Stp.h ?_))

section
variable {P : Program} {w : World} {K : PySem.W.Frag} {mg : Str → Option Value} {base : Heap}
theorem sc_is_name : FnScope ["thing", "sign"] ["thing"] (defScope s_is_name) := ⟨rfl, rfl, rfl, by decide +kernel, rfl, by decide +kernel, by decide +kernel⟩
theorem ok_is_name (T : TX K mg) : FnOk P w K mg base CX0 1 T.d_is_name.a T.d_is_name.d ["thing"] (spD (one fun z => .bl (isName z))) := by
  refine T.d_is_name.F.ok sc_is_name (fun vs H Q E h => one_len h) (fun cdv A outer s H vs Q E hr h => ?_)
  obtain ⟨d, h, k⟩ := h
  obtain ⟨z, rfl, hz, rfl⟩ := one_open h
  refine ⟨_, (pss_cons (ps_if (PW.pt (pw_or (pt_not (pt_val (pe_callB (call_isiK' (K := K) rfl) (by rfl) T.z_isinstance bt_isinstance (pa_cons (pv 0) (pa_cons (pe_bltn (v := .ty "str") (by rfl) T.z_str bt_str rfl) pa_nil))))) (pw_or1 (pt_not (pt_chain op_leA op_leA pe_int (pe_callB (call_lenK (K := K) rfl) (by rfl) T.z_len bt_len (pa_cons (pv 0) pa_nil)) (pe_glob (v := (.int 8)) (by rfl) T.k_MOST_LETTERS.2 ⟨_, rfl⟩))))))
    (pss_one (ps_ret pe_bl))
    pss_nil)
  (pss_one (ps_ret (pe_callB (cr_allK (K := K) rfl rfl) (by rfl) T.z_all bt_all (pa_cons (pe_lc (own := [("sign", 1)]) rfl sc_is_name.nd (pi_anyK (K := K) rfl (pv 0)) (blkOk_by (N := ["thing", "sign"]) (sc := defScope s_is_name) (own := [("sign", 1)]) (by decide +kernel)) (fun _ _ _ _ _ => (pg_name (i := 1) sc_is_name.nd rfl (Or.inl rfl))) (fun _ _ _ _ _ => pts_nil) (fun _ _ _ _ _ => (pe_cmpR (op_inK (K := K) rfl) (pv 1) (pe_glob (v := (.str "abcdefghijklmnopqrstuvwxyz")) (by rfl) T.k_LETTERS.2 ⟨_, rfl⟩) (by rfl)))) pa_nil))))), ?_⟩
  refine at_start [some (.str z), none] rfl ?_
  walk_at "s"
  refine iteB (fun h1 => ?_) (fun h1 => ?_)
  · walk_at "s"
    refine iteB (fun h2 => ?_) (fun h2 => ?_)
    · walk_at "s"
      exact k _ _ (by walk_at "gr") (rep_bl (by simp only [isName, h1]; simp at h2; simp; omega))
    · walk_at "s"
      refine w_iS' ?_
      walk_at "s"
      refine lc_signs [some (.str z), none] rfl (fun c => .bl (decide (c ∈ LETS.cps.toList))) (by omega) (fun c H1 hc g1 R A kA => ?_) (fun D H1 g1 hD e => ?_)
      · walk_at "s"
        refine ⟨rfl, ?_⟩
        walk_at "s"
        exact kA _ (Gr.refl _ _)
      · walk_at "s"
        refine w_all (bs := z.cps.toList.map fun c => decide (c ∈ LETS.cps.toList)) (SqL.of (by rw [e, List.map_map]; rfl)) ?_
        walk_at "s"
        exact k _ _ (by walk_at "gr") (rep_bl (by simp only [isName, h1]; simp at h2; simp [h2]))
  · walk_at "s"
    exact k _ _ (by walk_at "gr") (rep_bl (by simp only [isName, h1]; rfl))
theorem sc_is_number : FnScope ["thing"] ["thing"] (defScope s_is_number) := ⟨rfl, rfl, rfl, by decide +kernel, rfl, by decide +kernel, by decide +kernel⟩
def numF : List V → Option PD
  | [.int _] => some (.bl true)
  | [.bl _] => some (.bl false)
  | [.str _] => some (.bl false)
  | [.non] => some (.bl false)
  | _ => none
theorem ok_is_number (T : TX K mg) : FnOk P w K mg base CX0 1 T.d_is_number.a T.d_is_number.d ["thing"] (spD numF) := by
  refine T.d_is_number.F.ok sc_is_number (fun vs H Q E h => ?_) (fun cdv A outer s H vs Q E hr h => ?_)
  · obtain ⟨d, h, _⟩ := h
    unfold numF at h
    split at h <;> first | rfl | cases h
  obtain ⟨d, h, k⟩ := h
  refine ⟨_, (pss_one (ps_ret (pe_and (pe_callB (call_isiK' (K := K) rfl) (by rfl) T.z_isinstance bt_isinstance (pa_cons (pv 0) (pa_cons (pe_bltn (v := .ty "int") (by rfl) T.z_int bt_int rfl) pa_nil))) (pe_one (pe_not (pe_callB (call_isiK' (K := K) rfl) (by rfl) T.z_isinstance bt_isinstance (pa_cons (pv 0) (pa_cons (pe_bltn (v := .ty "bool") (by rfl) T.z_bool bt_bool rfl) pa_nil)))))))), ?_⟩
  unfold numF at h
  split at h <;> cases h
  · refine at_start [some (.int _)] rfl ?_
    walk_at "s"; exact k _ _ (by walk_at "gr") (rep_bl rfl)
  · refine at_start [some (.bl _)] rfl ?_
    walk_at "s"; exact k _ _ (by walk_at "gr") (rep_bl rfl)
  · refine at_start [some (.str _)] rfl ?_
    walk_at "s"; exact k _ _ (by walk_at "gr") (rep_bl rfl)
  · refine at_start [some (.non)] rfl ?_
    walk_at "s"; exact k _ _ (by walk_at "gr") (rep_bl rfl)
theorem sc_is_value : FnScope ["thing", "sign"] ["thing"] (defScope s_is_value) := ⟨rfl, rfl, rfl, by decide +kernel, rfl, by decide +kernel, by decide +kernel⟩
theorem ok_is_value (T : TX K mg) : FnOk P w K mg base CX0 2 T.d_is_value.a T.d_is_value.d ["thing"] (spD (one fun z => .bl (isVal z))) := by
  refine T.d_is_value.F.ok sc_is_value (fun vs H Q E h => one_len h) (fun cdv A outer s H vs Q E hr h => ?_)
  obtain ⟨d, h, k⟩ := h
  obtain ⟨z, rfl, hz, rfl⟩ := one_open h
  refine ⟨_, (pss_cons (ps_if (pt_val (pe_callB (call_isiK' (K := K) rfl) (by rfl) T.z_isinstance bt_isinstance (pa_cons (pv 0) (pa_cons (pe_bltn (v := .ty "str") (by rfl) T.z_str bt_str rfl) pa_nil))))
    (pss_one (ps_ret (pe_callB (cr_allK (K := K) rfl rfl) (by rfl) T.z_all bt_all (pa_cons (pe_lc (own := [("sign", 1)]) rfl sc_is_value.nd (pi_anyK (K := K) rfl (pv 0)) (blkOk_by (N := ["thing", "sign"]) (sc := defScope s_is_value) (own := [("sign", 1)]) (by decide +kernel)) (fun _ _ _ _ _ => (pg_name (i := 1) sc_is_value.nd rfl (Or.inl rfl))) (fun _ _ _ _ _ => pts_nil) (fun _ _ _ _ _ => (pe_chain op_leA op_leA pe_str (pv 1) pe_str))) pa_nil))))
    pss_nil)
  (pss_one (ps_ret (pe_call (ok_is_number T) (hr.mono (by decide)) (by rfl) T.d_is_number.g T.d_is_number.F.kp T.d_is_number.b .nil pass0 (pa_cons (pv 0) pa_nil))))), ?_⟩
  refine at_start [some (.str z), none] rfl ?_
  walk_at "s"
  refine w_iS' ?_
  walk_at "s"
  refine lc_signs [some (.str z), none] rfl (fun c => .bl (!decide ([c] < [32]) && !decide ([126] < [c]))) (by omega) (fun c H1 hc g1 R A kA => ?_) (fun D H1 g1 hD e => ?_)
  · walk_at "s"
    refine ⟨rfl, ?_⟩
    walk_at "s"
    refine iteB (fun h1 => ?_) (fun h1 => ?_)
    · walk_at "s"
      refine Qv ?_ (kA _ (Gr.refl _ _))
      have h1' : (!decide ([c] < [32])) = true := h1
      rw [h1']; rfl
    · walk_at "s"
      refine Qv ?_ (kA _ (Gr.refl _ _))
      have h1' : (!decide ([c] < [32])) = false := h1
      rw [h1']; rfl
  · walk_at "s"
    refine w_all (bs := z.cps.toList.map fun c => (!decide ([c] < [32]) && !decide ([126] < [c]))) (SqL.of (by rw [e, List.map_map]; rfl)) ?_
    walk_at "s"
    exact k _ _ (by walk_at "gr") (rep_bl rfl)
end
end RS
set_option Elab.async false
set_option linter.all false
set_option maxRecDepth 100000
set_option maxHeartbeats 4000000

namespace RS
open PySem L2
/-! steps by their heads -/
local macro_rules | `(tactic| walk_at "fr") => `(tactic| first
  | assumption
  | exact SqL.of (by assumption)
  | exact SqT.of (by assumption)
  | exact Or.inl (by assumption)
  | exact Or.inr (by assumption)
  | (refine Gr.get (by assumption) ?_ (by walk_at "nin"); walk_at "fr")
  | (refine Gr.tup (by assumption) _ _ ?_; walk_at "fr")
  | (refine SqL.of ?_; walk_at "fr1")
  | (refine SqT.of ?_; walk_at "fr1")
  | (refine Gr.sqL (by assumption) ?_ (by walk_at "nin"); walk_at "fr")
  | (refine Gr.sqT (by assumption) ?_ (by walk_at "nin"); walk_at "fr")
  | (refine Gr.rep0 (by assumption) ?_; walk_at "fr")
  | (refine Gr.reps0 (by assumption) ?_; walk_at "fr"))
local macro_rules | `(tactic| walk_at "fr1") => `(tactic| first
  | assumption
  | (refine Gr.tup (by assumption) _ _ ?_; walk_at "fr1")
  | (refine Gr.get (by assumption) ?_ (by walk_at "nin"); walk_at "fr1"))
local macro_rules | `(tactic| walk_at "nin") => `(tactic| first
  | exact nin_nil
  | assumption
  | (refine nin_one ?_; walk_at "ne"))
local macro_rules | `(tactic| walk_at "ne") => `(tactic| first
  | assumption
  | exact Ne.symm (by assumption)
  | exact ne_new (by assumption) (by assumption)
  | exact Ne.symm (ne_new (by assumption) (by assumption)))
local macro_rules | `(tactic| walk_at "sz") => `(tactic| first
  | assumption
  | exact rfl
  | omega
  | (simp only [List.length_cons, List.length_nil, List.length_append, List.length_map, CDiv, CDivN, CMul]; omega)
  | decide
  | (constructor <;> first | exact rfl | omega | assumption | (simp only [List.length_cons, List.length_nil, List.length_append, List.length_map]; omega) | decide))
local macro_rules | `(tactic| walk_at "i1") => `(tactic| first
  | ((with_reducible refine' isi_L_list ?vh ?_); (case vh => walk_at "fr"))
  | ((with_reducible refine' isi_T_list ?vh ?_); (case vh => walk_at "fr"))
  | ((with_reducible refine' isi_L_tuple ?vh ?_); (case vh => walk_at "fr"))
  | ((with_reducible refine' isi_T_tuple ?vh ?_); (case vh => walk_at "fr"))
  | ((with_reducible refine' isi_L_str ?vh ?_); (case vh => walk_at "fr"))
  | ((with_reducible refine' isi_T_str ?vh ?_); (case vh => walk_at "fr"))
  | ((with_reducible refine' isi_L_int ?vh ?_); (case vh => walk_at "fr"))
  | ((with_reducible refine' isi_T_int ?vh ?_); (case vh => walk_at "fr"))
  | ((with_reducible refine' isi_L_bool ?vh ?_); (case vh => walk_at "fr"))
  | ((with_reducible refine' isi_T_bool ?vh ?_); (case vh => walk_at "fr")))
local macro_rules | `(tactic| walk_at "s") => `(tactic| repeat (first
  | with_reducible refine Stp.h ?_
  | ((with_reducible refine szc ?_ ?_); walk_at "sz")
  | ((with_reducible refine' w_kTyL ?vh ?_); (case vh => walk_at "fr"))
  | ((with_reducible refine' w_lenL ?vh ?_); (case vh => walk_at "fr"))
  | ((with_reducible refine' w_lenT ?vh ?_); (case vh => walk_at "fr"))))
local macro_rules | `(tactic| walk_at "gr") => `(tactic| first
  | exact Gr.refl _ _
  | assumption
  | exact Gr.wide (by assumption)
  | (refine Gr.trans ?_ (by assumption); walk_at "gr")
  | (refine Gr.trans ?_ (Gr.wide (by assumption)); walk_at "gr"))
local macro_rules | `(tactic| walk_at "s2") => `(tactic| (with_reducible refine Stp.h ?_; with_reducible refine Stp.h ?_))

section
variable {P : Program} {w : World} {K : PySem.W.Frag} {mg : Str → Option Value} {base : Heap}
theorem sc_number_in : FnScope ["word", "figures", "sign"] ["word"] (defScope s_number_in) := ⟨rfl, rfl, rfl, by decide +kernel, rfl, by decide +kernel, by decide +kernel⟩
theorem ok_number_in (T : TX K mg) : FnOk P w K mg base CX0 1 T.d_number_in.a T.d_number_in.d ["word"] (spD (one fun z => optI (numberIn z))) := by
  refine T.d_number_in.F.ok sc_number_in (fun vs H Q E h => one_len h) (fun cdv A outer s H vs Q E hr h => ?_)
  obtain ⟨d, h, k⟩ := h
  obtain ⟨z, rfl, hz, rfl⟩ := one_open h
  refine ⟨_, (pss_cons (ps_set (i := 1) sc_number_in.nd rfl (Or.inl rfl) (pe_ifExp (pt_val (pe_m1 PySem.F.slot_str_startswith PySem.F.type_str_startswith mt_startsA (pv 0) pe_str)) (pe_slice (sl_anyK (K := K) rfl) (pv 0) (po_some pe_int) po_none) (pv 0)))
  (pss_cons (ps_if (PW.pt (pw_or (pt_not (pt_chain op_leA op_leA pe_int (pe_callB (call_lenK (K := K) rfl) (by rfl) T.z_len bt_len (pa_cons (pv 1) pa_nil)) (pe_glob (v := (.int 30)) (by rfl) T.k_MOST_FIGURES_texts.2 ⟨_, rfl⟩))) (pw_or1 (pt_not (pt_val (pe_callB (cr_allK (K := K) rfl rfl) (by rfl) T.z_all bt_all (pa_cons (pe_lc (own := [("sign", 2)]) rfl sc_number_in.nd (pi_anyK (K := K) rfl (pv 1)) (blkOk_by (N := ["word", "figures", "sign"]) (sc := defScope s_number_in) (own := [("sign", 2)]) (by decide +kernel)) (fun _ _ _ _ _ => (pg_name (i := 2) sc_number_in.nd rfl (Or.inl rfl))) (fun _ _ _ _ _ => pts_nil) (fun _ _ _ _ _ => (pe_cmpR (op_inK (K := K) rfl) (pv 2) (pe_glob (v := (.str "0123456789")) (by rfl) T.k_FIGURES.2 ⟨_, rfl⟩) (by rfl)))) pa_nil)))))))
    (pss_one (ps_ret pe_non))
    pss_nil)
  (pss_cons (ps_if (PW.pt (pw_and (pt_cmpR (op_eqK (K := K) rfl (hu64 hr)) (pe_ix (ix_anyK (K := K) rfl) (pv 1) pe_int (fun _ _ => rfl)) pe_str (nomark _)) (pw_and1 (pt_cmpR (op_neK (K := K) rfl (hu64 hr)) (pv 0) pe_str (nomark _)))))
    (pss_one (ps_ret pe_non))
    pss_nil)
  (pss_one (ps_ret (pe_callTy call_intA (by rfl) T.z_int bt_int (pa_cons (pv 0) pa_nil))))))), ?_⟩
  refine at_start [some (.str z), none, none] rfl ?_
  have hf : (figsOf z).length ≤ z.length := by unfold figsOf; split; exact cutS_len _ _ _; exact Nat.le_refl _
  walk_at "s2"
  refine (if_join (c := Txt.startswith z "-") (v := .str (figsOf z)) (fun QB q => ?_) (fun e Q' q => ?_) (fun e Q' q => ?_) ?_)
  · walk_at "s"; exact q
  · walk_at "s"
    refine Qv ?_ q
    unfold figsOf; rw [if_pos e]
  · walk_at "s"
    refine Qv ?_ q
    unfold figsOf; rw [if_neg (by rw [e]; exact Bool.false_ne_true)]
  walk_at "s"
  have stop : figsOk (figsOf z) 30 = false → numberIn z = none := fun e => by unfold numberIn; rw [e]; rfl
  refine iteB (fun h1 => ?_) (fun h1 => ?_)
  · walk_at "s"
    refine iteB (fun h2 => ?_) (fun h2 => ?_)
    · walk_at "s"
      refine k _ _ (by walk_at "gr") ?_
      rw [stop (by simp only [figsOk, h1]; simp at h2; simp; omega)]; exact rep_non
    · walk_at "s"
      refine w_iS' ?_
      walk_at "s"
      refine lc_signs [some (.str z), some (.str (figsOf z)), none] rfl (fun c => .bl (decide (c ∈ FIGS.cps.toList))) (by omega) (fun c H1 hc g1 R A kA => ?_) (fun D H1 g1 hD e => ?_)
      · walk_at "s"
        refine ⟨rfl, ?_⟩
        walk_at "s"
        exact kA _ (Gr.refl _ _)
      · walk_at "s"
        refine w_all (bs := (figsOf z).cps.toList.map fun c => decide (c ∈ FIGS.cps.toList)) (SqL.of (by rw [e, List.map_map]; rfl)) ?_
        walk_at "s"
        have eo : figsOk (figsOf z) 30 = ((figsOf z).cps.toList.map fun c => decide (c ∈ FIGS.cps.toList)).all id := by simp only [figsOk, h1]; simp at h2; simp [h2]
        refine iteB (fun h3 => ?_) (fun h3 => ?_)
        · walk_at "s"
          refine k _ _ (by walk_at "gr") ?_
          rw [stop (by rw [eo]; simpa using h3)]; exact rep_non
        · have ok : figsOk (figsOf z) 30 = true := by rw [eo]; simpa using h3
          obtain ⟨hd, hn, _⟩ := figs_digits ok
          cases hl : (figsOf z).cps.toList with
          | nil => exact absurd hl hn
          | cons c r =>
            walk_at "s"
            refine w_ixS (by omega) (atI_zero hl) ?_
            walk_at "s"
            have l0 : lead0 (figsOf z) = decide (c = 48) := by unfold lead0; rw [hl]
            have c0 : decide ((V.str ⟨#[c]⟩ : V) = V.str "0") = decide (c = 48) := by
              have : ((V.str ⟨#[c]⟩ : V) = V.str "0") ↔ c = 48 := by
                constructor
                · intro h
                  injection h with h
                  have := congrArg (fun s : Str => s.cps.toList) h
                  have e0 : ("0" : Str).cps.toList = [48] := by decide +kernel
                  rw [e0] at this
                  simpa using this
                · intro h
                  subst h
                  exact congrArg V.str (by decide +kernel)
              simp only [this]
            have z0 : decide ((V.str z : V) = V.str "0") = decide (z = ("0" : Str)) := by simp only [V.str.injEq]
            have num : ∀ b : Bool, (lead0 (figsOf z) && !decide (z = ("0" : Str))) = b → numberIn z = if b then none else some (numVal z) := by
              intro b hb; unfold numberIn; rw [ok, hb]; cases b <;> rfl
            refine iteB (fun h4 => ?_) (fun h4 => ?_)
            · walk_at "s"
              refine iteB (fun h5 => ?_) (fun h5 => ?_)
              · walk_at "s"
                refine k _ _ (by walk_at "gr") ?_
                rw [num true (by rw [l0, ← c0, h4, ← z0]; exact h5)]; exact rep_non
              · walk_at "s"
                refine w_intS (number_reads ok).1 (number_reads ok).2 ?_
                walk_at "s"
                refine k _ _ (by walk_at "gr") ?_
                rw [num false (by rw [l0, ← c0, h4, ← z0]; exact h5)]; exact rep_int rfl
            · walk_at "s"
              refine w_intS (number_reads ok).1 (number_reads ok).2 ?_
              walk_at "s"
              refine k _ _ (by walk_at "gr") ?_
              rw [num false (by rw [l0, ← c0, h4]; rfl)]; exact rep_int rfl
  · walk_at "s"
    refine k _ _ (by walk_at "gr") ?_
    rw [stop (by simp only [figsOk, h1]; rfl)]; exact rep_non
theorem sc_bare_in : FnScope ["quoted", "found", "held", "sign"] ["quoted"] (defScope s_bare_in) := ⟨rfl, rfl, rfl, by decide +kernel, rfl, by decide +kernel, by decide +kernel⟩
theorem ok_bare_in (T : TX K mg) : FnOk P w K mg base CX0 1 T.d_bare_in.a T.d_bare_in.d ["quoted"] (spD (one fun z => optS (bareIn z))) := by
  refine T.d_bare_in.F.ok sc_bare_in (fun vs H Q E h => one_len h) (fun cdv A outer s H vs Q E hr h => ?_)
  obtain ⟨d, h, k⟩ := h
  obtain ⟨z, rfl, hz, rfl⟩ := one_open h
  refine ⟨_, (pss_cons (ps_set (i := 1) sc_bare_in.nd rfl (Or.inl rfl) pe_str)
  (pss_cons (ps_set (i := 2) sc_bare_in.nd rfl (Or.inl rfl) pe_bl)
  (pss_cons (ps_for PassesOwn.never rfl (pi_anyK (K := K) rfl (pv 0)) (pg_name (i := 3) sc_bare_in.nd rfl (Or.inl rfl))
    (pss_one (ps_if (PW.pt (pw_or (pt_val (pv 2)) (pw_or1 (pt_cmpR (op_ninK (K := K) rfl) (pv 3) (pe_tup (pa_cons (pe_glob (v := (.str "'")) (by rfl) T.k_QUOTE.2 ⟨_, rfl⟩) (pa_cons (pe_glob (v := (.str "\\")) (by rfl) T.k_STROKE.2 ⟨_, rfl⟩) pa_nil))) (by rfl)))))
    (pss_cons (ps_if (PW.pt (pw_and (pt_val (pv 2)) (pw_and1 (pt_cmpR (op_ninK (K := K) rfl) (pv 3) (pe_tup (pa_cons (pe_glob (v := (.str "'")) (by rfl) T.k_QUOTE.2 ⟨_, rfl⟩) (pa_cons (pe_glob (v := (.str "\\")) (by rfl) T.k_STROKE.2 ⟨_, rfl⟩) pa_nil))) (by rfl)))))
    (pss_one (ps_ret pe_non))
    pss_nil)
  (pss_cons (ps_aug (i := 1) sc_bare_in.nd rfl (Or.inl rfl) (pv 3) ip_addA)
  (pss_one (ps_set (i := 2) sc_bare_in.nd rfl (Or.inl rfl) pe_bl))))
    (pss_one (ps_if (pt_cmpR (op_eqK (K := K) rfl (hu64 hr)) (pv 3) (pe_glob (v := (.str "\\")) (by rfl) T.k_STROKE.2 ⟨_, rfl⟩) (nomark _))
    (pss_one (ps_set (i := 2) sc_bare_in.nd rfl (Or.inl rfl) pe_bl))
    (pss_one (ps_ret pe_non)))))))
  (pss_one (ps_ret (pe_ifExp (pt_val (pv 2)) pe_non (pv 1))))))), ?_⟩
  refine at_start [some (.str z), none, none, none] rfl ?_
  walk_at "s"
  refine w_iS' ?_
  walk_at "s"
  refine for_it walk_strE (fun i σ H' => ∃ f held sv, σ = [some (.str z), some (.str f), some (.bl held), sv] ∧ Gr [] H H' ∧ f.length ≤ i ∧ i ≤ z.cps.toList.length ∧ bareGo (z.cps.toList.drop i) f held = bareIn z) ?_ (fun _ _ _ _ _ => trivial) ?_ ?_
  · exact ⟨"", false, none, rfl, Gr.refl _ _, by decide, Nat.zero_le _, rfl⟩
  · rintro i x σ H1 H1' hi ⟨f, held, sv, rfl, g1, hl, hi2, e⟩ ⟨rfl, hx⟩
    simp only [signs, List.getElem?_map, Option.map_eq_some_iff] at hx
    obtain ⟨c, hc, rfl⟩ := hx
    have hlt : i < z.cps.toList.length := (List.getElem?_eq_some_iff.mp hc).1
    have hd : z.cps.toList.drop i = c :: z.cps.toList.drop (i + 1) := by
      rw [List.drop_eq_getElem_cons hlt]
      exact congrArg (· :: _) (List.getElem?_eq_some_iff.mp hc).2
    rw [hd] at e
    have hzl : z.length = z.cps.toList.length := by simp [Str.length]
    have l1 : (⟨#[c]⟩ : Str).length = 1 := rfl
    have hq : inV (.str ⟨#[c]⟩) [.str "'", .str "\\"] = (decide (c = 39) || decide (c = 92)) := inv_q c
    have tail : ∀ (f' : Str) (held' : Bool) (sv' : Option V) (H2 : Hp), Gr [] H1' H2 → f'.length ≤ i + 1 → bareGo (z.cps.toList.drop (i + 1)) f' held' = bareIn z →
        ∃ f held sv, ([some (.str z), some (.str f'), some (.bl held'), sv'] : L2.St) = [some (.str z), some (.str f), some (.bl held), sv] ∧ Gr [] H H2 ∧ f.length ≤ i + 1 ∧ i + 1 ≤ z.cps.toList.length ∧ bareGo (z.cps.toList.drop (i + 1)) f held = bareIn z :=
      fun f' held' sv' H2 g2 h1 h2 => ⟨f', held', sv', rfl, g1.trans g2, h1, hlt, h2⟩
    walk_at "s"
    cases held with
    | true =>
      walk_at "s"
      refine w_kTup (fun p H2 g2 hp e2 => ?_) (by decide)
      refine w_ninQ (Or.inr (SqT.of e2)) rfl rfl ?_
      rw [hq]
      walk_at "s"
      cases hb : (decide (c = 39) || decide (c = 92)) with
      | true =>
        walk_at "s"
        refine tail _ _ _ _ g2 (by rw [slen_app]; show f.length + 1 ≤ i + 1; omega) ?_
        unfold bareGo at e
        rw [hb] at e
        exact e
      | false =>
        walk_at "s"
        refine k _ _ (g1.trans g2) ?_
        unfold bareGo at e
        rw [hb] at e
        have e' : bareIn z = none := e.symm
        rw [e']; exact rep_non
    | false =>
      walk_at "s"
      refine w_kTup (fun p H2 g2 hp e2 => ?_) (by decide)
      refine w_ninQ (Or.inr (SqT.of e2)) rfl rfl ?_
      rw [hq]
      walk_at "s"
      cases hb : (decide (c = 39) || decide (c = 92)) with
      | true =>
        walk_at "s"
        have c0 : decide ((V.str ⟨#[c]⟩ : V) = V.str "\\") = decide (c = 92) := sign_eq (by decide +kernel)
        rw [c0]
        unfold bareGo at e
        rw [hb] at e
        by_cases h9 : c = 92
        · rw [decide_eq_true h9]
          walk_at "s"
          rw [if_neg (by decide), if_pos h9] at e
          exact tail _ _ _ _ g2 (by omega) e
        · rw [decide_eq_false h9]
          walk_at "s"
          rw [if_neg (by decide), if_neg h9] at e
          refine k _ _ (g1.trans g2) ?_
          rw [← e]; exact rep_non
      | false =>
        walk_at "s"
        refine tail _ _ _ _ g2 (by rw [slen_app]; show f.length + 1 ≤ i + 1; omega) ?_
        unfold bareGo at e
        rw [hb] at e
        exact e
  · rintro σ H1 ⟨f, held, sv, rfl, g1, hl, hi2, e⟩
    have hd : z.cps.toList.drop (signs z).length = [] := by simp [signs]
    rw [hd] at e
    walk_at "s"
    cases held with
    | true =>
      walk_at "s"
      refine k _ _ g1 ?_
      rw [show bareIn z = none from e.symm]; exact rep_non
    | false =>
      walk_at "s"
      refine k _ _ g1 ?_
      rw [show bareIn z = some f from e.symm]; exact rep_str rfl
end
end RS
set_option Elab.async false
set_option linter.all false
set_option maxRecDepth 100000
set_option maxHeartbeats 4000000

namespace RS
open PySem L2
/-! steps by their heads -/
local macro_rules | `(tactic| walk_at "fr") => `(tactic| first
  | assumption
  | exact SqL.of (by assumption)
  | exact SqT.of (by assumption)
  | exact Or.inl (by assumption)
  | exact Or.inr (by assumption)
  | (refine Gr.get (by assumption) ?_ (by walk_at "nin"); walk_at "fr")
  | (refine Gr.tup (by assumption) _ _ ?_; walk_at "fr")
  | (refine SqL.of ?_; walk_at "fr1")
  | (refine SqT.of ?_; walk_at "fr1")
  | (refine Gr.sqL (by assumption) ?_ (by walk_at "nin"); walk_at "fr")
  | (refine Gr.sqT (by assumption) ?_ (by walk_at "nin"); walk_at "fr")
  | (refine Gr.rep0 (by assumption) ?_; walk_at "fr")
  | (refine Gr.reps0 (by assumption) ?_; walk_at "fr"))
local macro_rules | `(tactic| walk_at "fr1") => `(tactic| first
  | assumption
  | (refine Gr.tup (by assumption) _ _ ?_; walk_at "fr1")
  | (refine Gr.get (by assumption) ?_ (by walk_at "nin"); walk_at "fr1"))
local macro_rules | `(tactic| walk_at "nin") => `(tactic| first
  | exact nin_nil
  | assumption
  | (refine nin_one ?_; walk_at "ne"))
local macro_rules | `(tactic| walk_at "ne") => `(tactic| first
  | assumption
  | exact Ne.symm (by assumption)
  | exact ne_new (by assumption) (by assumption)
  | exact Ne.symm (ne_new (by assumption) (by assumption)))
local macro_rules | `(tactic| walk_at "sz") => `(tactic| first
  | assumption
  | exact rfl
  | omega
  | (simp only [List.length_cons, List.length_nil, List.length_append, List.length_map, CDiv, CDivN, CMul]; omega)
  | decide
  | (constructor <;> first | exact rfl | omega | assumption | (simp only [List.length_cons, List.length_nil, List.length_append, List.length_map]; omega) | decide))
local macro_rules | `(tactic| walk_at "i1") => `(tactic| first
  | ((with_reducible refine' isi_L_list ?vh ?_); (case vh => walk_at "fr"))
  | ((with_reducible refine' isi_T_list ?vh ?_); (case vh => walk_at "fr"))
  | ((with_reducible refine' isi_L_tuple ?vh ?_); (case vh => walk_at "fr"))
  | ((with_reducible refine' isi_T_tuple ?vh ?_); (case vh => walk_at "fr"))
  | ((with_reducible refine' isi_L_str ?vh ?_); (case vh => walk_at "fr"))
  | ((with_reducible refine' isi_T_str ?vh ?_); (case vh => walk_at "fr"))
  | ((with_reducible refine' isi_L_int ?vh ?_); (case vh => walk_at "fr"))
  | ((with_reducible refine' isi_T_int ?vh ?_); (case vh => walk_at "fr"))
  | ((with_reducible refine' isi_L_bool ?vh ?_); (case vh => walk_at "fr"))
  | ((with_reducible refine' isi_T_bool ?vh ?_); (case vh => walk_at "fr")))
local macro_rules | `(tactic| walk_at "s") => `(tactic| repeat (first
  | with_reducible refine Stp.h ?_
  | ((with_reducible refine szc ?_ ?_); walk_at "sz")
  | ((with_reducible refine' w_kTyL ?vh ?_); (case vh => walk_at "fr"))
  | ((with_reducible refine' w_lenL ?vh ?_); (case vh => walk_at "fr"))
  | ((with_reducible refine' w_lenT ?vh ?_); (case vh => walk_at "fr"))))
local macro_rules | `(tactic| walk_at "gr") => `(tactic| first
  | exact Gr.refl _ _
  | assumption
  | exact Gr.wide (by assumption)
  | (refine Gr.trans ?_ (by assumption); walk_at "gr")
  | (refine Gr.trans ?_ (Gr.wide (by assumption)); walk_at "gr"))
local macro_rules | `(tactic| walk_at "s2") => `(tactic| (with_reducible refine Stp.h ?_; with_reducible refine Stp.h ?_))

section
variable {P : Program} {w : World} {K : PySem.W.Frag} {mg : Str → Option Value} {base : Heap}
theorem sc_text_in : FnScope ["word", "found"] ["word"] (defScope s_text_in) := ⟨rfl, rfl, rfl, by decide +kernel, rfl, by decide +kernel, by decide +kernel⟩
theorem ok_text_in (T : TX K mg) : FnOk P w K mg base CX0 3 T.d_text_in.a T.d_text_in.d ["word"] (spD (one fun z => optS (textIn z))) := by
  refine T.d_text_in.F.ok sc_text_in (fun vs H Q E h => one_len h) (fun cdv A outer s H vs Q E hr h => ?_)
  obtain ⟨d, h, k⟩ := h
  obtain ⟨z, rfl, hz, rfl⟩ := one_open h
  refine ⟨_, (pss_cons (ps_if (PW.pt (pw_or (pt_cmpR op_lt (pe_callB (call_lenK (K := K) rfl) (by rfl) T.z_len bt_len (pa_cons (pv 0) pa_nil)) pe_int (nomark _)) (pw_or (pt_cmpR (op_neK (K := K) rfl (hu64 hr)) (pe_ix (ix_anyK (K := K) rfl) (pv 0) pe_int (fun _ _ => rfl)) (pe_glob (v := (.str "'")) (by rfl) T.k_QUOTE.2 ⟨_, rfl⟩) (nomark _)) (pw_or1 (pt_cmpR (op_neK (K := K) rfl (hu64 hr)) (pe_ix (ix_anyK (K := K) rfl) (pv 0) (pe_un un_neg pe_int) (fun _ _ => rfl)) (pe_glob (v := (.str "'")) (by rfl) T.k_QUOTE.2 ⟨_, rfl⟩) (nomark _))))))
    (pss_one (ps_ret pe_non))
    pss_nil)
  (pss_cons (ps_set (i := 1) sc_text_in.nd rfl (Or.inl rfl) (pe_call (ok_bare_in T) (hr.mono (by decide)) (by rfl) T.d_bare_in.g T.d_bare_in.F.kp T.d_bare_in.b .nil pass0 (pa_cons (pe_slice (sl_anyK (K := K) rfl) (pv 0) (po_some pe_int) (po_some (pe_un un_neg pe_int))) pa_nil)))
  (pss_cons (ps_if (PW.pt (pw_or (pt_cmp (pc_isN (pv 1)) rfl) (pw_or (pt_cmpR op_gt (pe_callB (call_lenK (K := K) rfl) (by rfl) T.z_len bt_len (pa_cons (pv 1) pa_nil)) (pe_glob (v := (.int 40)) (by rfl) T.k_MOST_SIGNS.2 ⟨_, rfl⟩) (nomark _)) (pw_or1 (pt_not (pt_val (pe_call (ok_is_value T) (hr.mono (by decide)) (by rfl) T.d_is_value.g T.d_is_value.F.kp T.d_is_value.b .nil pass0 (pa_cons (pv 1) pa_nil))))))))
    (pss_one (ps_ret pe_non))
    pss_nil)
  (pss_one (ps_ret (pv 1)))))), ?_⟩
  refine at_start [some (.str z), none] rfl ?_
  walk_at "s"
  have none_of : (decide ((z.length : Int) < 2) || !decide (first? z = some 39) || !decide (last? z = some 39)) = true → textIn z = none := fun e => by unfold textIn; rw [if_pos e]
  refine iteB (fun h1 => ?_) (fun h1 => ?_)
  · walk_at "s"
    refine k _ _ (by walk_at "gr") ?_
    rw [none_of (by rw [h1]; rfl)]; exact rep_non
  · have hl2 : 2 ≤ z.cps.toList.length := by
      have := of_decide_eq_false h1
      rw [len_cps] at this; omega
    obtain ⟨c0, r, hc⟩ : ∃ c0 r, z.cps.toList = c0 :: r := by
      cases hh : z.cps.toList with
      | nil => rw [hh] at hl2; simp at hl2
      | cons c r => exact ⟨c, r, rfl⟩
    obtain ⟨c1, hc1⟩ : ∃ c1, z.cps.toList.getLast? = some c1 := by
      cases hh : z.cps.toList.getLast? with
      | none => rw [List.getLast?_eq_none_iff] at hh; rw [hh] at hl2; simp at hl2
      | some c => exact ⟨c, rfl⟩
    have f1 : first? z = some c0 := by unfold first?; rw [hc]; rfl
    have f2 : last? z = some c1 := hc1
    walk_at "s"
    refine w_ixS (by omega) (atI_zero hc) ?_
    walk_at "s"
    rw [sign_eq (k := 39) (by decide +kernel)]
    by_cases e0 : c0 = 39
    · rw [decide_eq_true e0]
      walk_at "s"
      refine w_ixS (by omega) (atI_last' hc1) ?_
      walk_at "s"
      rw [sign_eq (k := 39) (by decide +kernel)]
      by_cases e1 : c1 = 39
      · rw [decide_eq_true e1]
        walk_at "s"
        have un : textIn z = (match bareIn (cutS z (some 1) (some (-1))) with
            | none => none
            | some f => if decide (40 < (f.length : Int)) || !isVal f then none else some f) := by
          unfold textIn
          rw [f1, f2, h1, e0, e1]; rfl
        refine one_use (Nat.le_trans (cutS_len _ _ _) hz) (fun v H1 g1 t1 => ?_)
        cases hb : bareIn (cutS z (some 1) (some (-1))) with
        | none =>
          rw [hb] at t1 un
          obtain rfl := rep_non' t1
          walk_at "s"
          refine k _ _ (by walk_at "gr") ?_
          rw [un]; exact rep_non
        | some f =>
          rw [hb] at t1 un
          obtain rfl := rep_str' t1
          have hfl : f.length ≤ 1000000 := Nat.le_trans (bareIn_len hb) (Nat.le_trans (cutS_len _ _ _) hz)
          walk_at "s"
          refine iteB (fun h2 => ?_) (fun h2 => ?_)
          · walk_at "s"
            refine k _ _ (by walk_at "gr") ?_
            have : (decide (40 < (f.length : Int))) = true := h2
            rw [un]; simp only [this, Bool.true_or, if_true]; exact rep_non
          · have h2' : (decide (40 < (f.length : Int))) = false := h2
            walk_at "s"
            refine one_use hfl (fun v H2 g2 t2 => ?_)
            obtain rfl := rep_bl' t2
            walk_at "s"
            cases hv : isVal f with
            | true =>
              walk_at "s"
              refine k _ _ (by walk_at "gr") ?_
              rw [un]; simp only [h2', hv]; exact rep_str rfl
            | false =>
              walk_at "s"
              refine k _ _ (by walk_at "gr") ?_
              rw [un]; simp only [h2', hv]; exact rep_non
      · rw [decide_eq_false e1]
        walk_at "s"
        refine k _ _ (by walk_at "gr") ?_
        rw [none_of (by rw [f1, f2]; simp [e1])]; exact rep_non
    · rw [decide_eq_false e0]
      walk_at "s"
      refine k _ _ (by walk_at "gr") ?_
      rw [none_of (by rw [f1]; simp [e0])]; exact rep_non
theorem sc_value_in : FnScope ["word"] ["word"] (defScope s_value_in) := ⟨rfl, rfl, rfl, by decide +kernel, rfl, by decide +kernel, by decide +kernel⟩
theorem ok_value_in (T : TX K mg) : FnOk P w K mg base CX0 4 T.d_value_in.a T.d_value_in.d ["word"] (spD (one fun z => valueIn z)) := by
  refine T.d_value_in.F.ok sc_value_in (fun vs H Q E h => one_len h) (fun cdv A outer s H vs Q E hr h => ?_)
  obtain ⟨d, h, k⟩ := h
  obtain ⟨z, rfl, hz, rfl⟩ := one_open h
  refine ⟨_, (pss_cons (ps_if (pt_cmpR (op_eqK (K := K) rfl (hu64 hr)) (pe_slice (sl_anyK (K := K) rfl) (pv 0) po_none (po_some pe_int)) (pe_glob (v := (.str "'")) (by rfl) T.k_QUOTE.2 ⟨_, rfl⟩) (nomark _))
    (pss_one (ps_ret (pe_call (ok_text_in T) (hr.mono (by decide)) (by rfl) T.d_text_in.g T.d_text_in.F.kp T.d_text_in.b .nil pass0 (pa_cons (pv 0) pa_nil))))
    pss_nil)
  (pss_one (ps_ret (pe_call (ok_number_in T) (hr.mono (by decide)) (by rfl) T.d_number_in.g T.d_number_in.F.kp T.d_number_in.b .nil pass0 (pa_cons (pv 0) pa_nil))))), ?_⟩
  refine at_start [some (.str z)] rfl ?_
  walk_at "s"
  have e0 : decide ((V.str (cutS z none (some 1)) : V) = V.str "'") = decide (cutS z none (some 1) = ("'" : Str)) := by simp only [V.str.injEq]
  refine iteB (fun h1 => ?_) (fun h1 => ?_)
  · have h1' := of_decide_eq_true (e0.symm.trans h1)
    walk_at "s"
    refine one_use hz (fun v H1 g1 t1 => ?_)
    walk_at "s"
    refine k _ _ (by walk_at "gr") ?_
    rw [valueIn_text h1']; exact t1
  · have h1' := of_decide_eq_false (e0.symm.trans h1)
    walk_at "s"
    refine one_use hz (fun v H1 g1 t1 => ?_)
    walk_at "s"
    refine k _ _ (by walk_at "gr") ?_
    rw [valueIn_num h1']; exact t1
theorem sc_set_in : FnScope ["rest", "name", "gap", "more", "word", "slot", "value"] ["rest"] (defScope s_set_in) := ⟨rfl, rfl, rfl, by decide +kernel, rfl, by decide +kernel, by decide +kernel⟩
theorem ok_set_in (T : TX K mg) : FnOk P w K mg base CX0 5 T.d_set_in.a T.d_set_in.d ["rest"] (spD (one fun z => setIn z)) := by
  refine T.d_set_in.F.ok sc_set_in (fun vs H Q E h => one_len h) (fun cdv A outer s H vs Q E hr h => ?_)
  obtain ⟨d, h, k⟩ := h
  obtain ⟨z, rfl, hz, rfl⟩ := one_open h
  have pl := part_len z " "
  have rl := rpart_len (Txt.partition z " ").2.2 " "
  refine ⟨_, (pss_cons (ps_asg (pe_m1 PySem.F.slot_str_partition PySem.F.type_str_partition mt_partitionA (pv 0) pe_str) (pg_tupK (K := K) (n := 3) rfl rfl (pgs_cons (pg_name (i := 1) sc_set_in.nd rfl (Or.inl rfl)) (pgs_cons (pg_name (i := 2) sc_set_in.nd rfl (Or.inl rfl)) (pgs_cons (pg_name (i := 3) sc_set_in.nd rfl (Or.inl rfl)) pgs_nil)))))
  (pss_cons (ps_asg (pe_m1 PySem.F.slot_str_rpartition PySem.F.type_str_rpartition mt_rpartitionA (pv 3) pe_str) (pg_tupK (K := K) (n := 3) rfl rfl (pgs_cons (pg_name (i := 4) sc_set_in.nd rfl (Or.inl rfl)) (pgs_cons (pg_name (i := 2) sc_set_in.nd rfl (Or.inl rfl)) (pgs_cons (pg_name (i := 5) sc_set_in.nd rfl (Or.inl rfl)) pgs_nil)))))
  (pss_cons (ps_set (i := 6) sc_set_in.nd rfl (Or.inl rfl) (pe_call (ok_value_in T) (hr.mono (by decide)) (by rfl) T.d_value_in.g T.d_value_in.F.kp T.d_value_in.b .nil pass0 (pa_cons (pv 4) pa_nil)))
  (pss_cons (ps_if (PW.pt (pw_or (pt_cmp (pc_isN (pv 6)) rfl) (pw_or (pt_not (pt_val (pe_call (ok_is_name T) (hr.mono (by decide)) (by rfl) T.d_is_name.g T.d_is_name.F.kp T.d_is_name.b .nil pass0 (pa_cons (pv 1) pa_nil)))) (pw_or1 (pt_not (pt_val (pe_call (ok_is_name T) (hr.mono (by decide)) (by rfl) T.d_is_name.g T.d_is_name.F.kp T.d_is_name.b .nil pass0 (pa_cons (pv 5) pa_nil))))))))
    (pss_one (ps_ret pe_non))
    pss_nil)
  (pss_one (ps_ret (pe_tup (pa_cons pe_str (pa_cons (pv 1) (pa_cons (pv 6) (pa_cons (pv 5) pa_nil))))))))))), ?_⟩
  refine at_start [some (.str z), none, none, none, none, none, none] rfl ?_
  walk_at "s"
  refine w_part1 (by decide +kernel) (by omega) (fun p H1 g1 hp e1 => ?_)
  refine w_gtup (SqT.of e1) rfl ?_
  walk_at "s"
  refine w_rpart1 (by decide +kernel) (by omega) (fun p2 H2 g2 hp2 e2 => ?_)
  refine w_gtup (SqT.of e2) rfl ?_
  walk_at "s"
  refine one_use (by omega) (fun v H3 g3 t3 => ?_)
  walk_at "s"
  generalize hn : (Txt.partition z " ").1 = name at *
  generalize hm : (Txt.partition z " ").2.2 = more at *
  generalize hw : (Txt.rpartition more " ").1 = word at *
  generalize hs : (Txt.rpartition more " ").2.2 = slot at *
  have go : ∀ (v : V) (d : PD), TRep H3 d v → d = valueIn word → v ≠ .non → (∀ d', setIn z = d' ↔ d' = if isName name && isName slot then .tup [.str "set", .str name, d, .str slot] else .non) := by
    intro v d td hd hv d'
    have : setIn z = if isName name && isName slot then .tup [.str "set", .str name, d, .str slot] else .non := by
      unfold setIn
      simp only [hn, hm, hw, hs, ← hd]
      cases d with
      | non => exact absurd (rep_non' td) hv
      | _ => rfl
    rw [this]
    exact eq_comm
  by_cases hv : v = .non
  · subst hv
    walk_at "s"
    refine k _ _ (by walk_at "gr") ?_
    have : valueIn word = .non := by
      cases hd : valueIn word with
      | non => rfl
      | _ => rw [hd] at t3; first | (have := rep_str' t3; cases this) | (have := rep_int' t3; cases this) | (have := rep_bl' t3; cases this) | (obtain ⟨_, _, h, _⟩ := rep_tup' t3; cases h) | (obtain ⟨_, _, h, _⟩ := rep_lst' t3; cases h) | (unfold TRep at t3; cases t3)
    have e : setIn z = .non := by unfold setIn; simp only [hn, hm, hw, hs, this]
    rw [e]; exact rep_non
  · rw [decide_eq_false hv]
    walk_at "s"
    refine one_use (by omega) (fun v4 H4 g4 t4 => ?_)
    obtain rfl := rep_bl' t4
    walk_at "s"
    cases hN : isName name with
    | false =>
      walk_at "s"
      refine k _ _ (by walk_at "gr") ?_
      rw [(go v _ t3 rfl hv _).mpr rfl, hN]; exact rep_non
    | true =>
      walk_at "s"
      refine one_use (by omega) (fun v5 H5 g5 t5 => ?_)
      obtain rfl := rep_bl' t5
      walk_at "s"
      cases hS : isName slot with
      | false =>
        walk_at "s"
        refine k _ _ (by walk_at "gr") ?_
        rw [(go v _ t3 rfl hv _).mpr rfl, hN, hS]; exact rep_non
      | true =>
        walk_at "s"
        refine w_kTup (fun q H6 g6 hq e6 => ?_) (by simp)
        walk_at "s"
        refine k _ _ (by walk_at "gr") ?_
        rw [(go v _ t3 rfl hv _).mpr rfl, hN, hS]
        exact rep_tup e6 (treps_cons (rep_str rfl) (treps_cons (rep_str rfl) (treps_cons (g6.rep0 (g5.rep0 (g4.rep0 t3))) (treps_cons (rep_str rfl) treps_nil))))
theorem sc_step_in : FnScope ["row", "word", "gap", "rest"] ["row"] (defScope s_step_in) := ⟨rfl, rfl, rfl, by decide +kernel, rfl, by decide +kernel, by decide +kernel⟩
theorem ok_step_in (T : TX K mg) : FnOk P w K mg base CX0 6 T.d_step_in.a T.d_step_in.d ["row"] (spD (one fun z => stepIn z)) := by
  refine T.d_step_in.F.ok sc_step_in (fun vs H Q E h => one_len h) (fun cdv A outer s H vs Q E hr h => ?_)
  obtain ⟨d, h, k⟩ := h
  obtain ⟨z, rfl, hz, rfl⟩ := one_open h
  have pl := part_len z " "
  refine ⟨_, (pss_cons (ps_asg (pe_m1 PySem.F.slot_str_partition PySem.F.type_str_partition mt_partitionA (pv 0) pe_str) (pg_tupK (K := K) (n := 3) rfl rfl (pgs_cons (pg_name (i := 1) sc_step_in.nd rfl (Or.inl rfl)) (pgs_cons (pg_name (i := 2) sc_step_in.nd rfl (Or.inl rfl)) (pgs_cons (pg_name (i := 3) sc_step_in.nd rfl (Or.inl rfl)) pgs_nil)))))
  (pss_cons (ps_if (pt_cmpR (op_eqK (K := K) rfl (hu64 hr)) (pv 1) pe_str (nomark _))
    (pss_one (ps_ret (pe_call (ok_set_in T) (hr.mono (by decide)) (by rfl) T.d_set_in.g T.d_set_in.F.kp T.d_set_in.b .nil pass0 (pa_cons (pv 3) pa_nil))))
    pss_nil)
  (pss_cons (ps_if (PW.pt (pw_and (pt_cmpR (op_inK (K := K) rfl) (pv 1) (pe_glob (v := .ref T.k_WITH_NAME.1) (by rfl) T.k_WITH_NAME.2.1 rfl) (by rfl)) (pw_and1 (pt_val (pe_call (ok_is_name T) (hr.mono (by decide)) (by rfl) T.d_is_name.g T.d_is_name.F.kp T.d_is_name.b .nil pass0 (pa_cons (pv 3) pa_nil))))))
    (pss_one (ps_ret (pe_tup (pa_cons (pv 1) (pa_cons (pv 3) pa_nil)))))
    pss_nil)
  (pss_cons (ps_if (pt_cmpR (op_inK (K := K) rfl) (pv 0) (pe_glob (v := .ref T.k_ALONE.1) (by rfl) T.k_ALONE.2.1 rfl) (by rfl))
    (pss_one (ps_ret (pe_tup (pa_cons (pv 0) pa_nil))))
    pss_nil)
  (pss_one (ps_ret pe_non)))))), ?_⟩
  refine at_start [some (.str z), none, none, none] rfl ?_
  walk_at "s"
  refine w_part1 (by decide +kernel) (by omega) (fun p H1 g1 hp e1 => ?_)
  refine w_gtup (SqT.of e1) rfl ?_
  walk_at "s"
  generalize hn : (Txt.partition z " ").1 = word at *
  generalize hm : (Txt.partition z " ").2.2 = rest at *
  have e0 : decide ((V.str word : V) = V.str "set") = decide (word = ("set" : Str)) := by simp only [V.str.injEq]
  rw [e0]
  by_cases hw : word = ("set" : Str)
  · rw [decide_eq_true hw]
    walk_at "s"
    refine one_use (by omega) (fun v H2 g2 t2 => ?_)
    walk_at "s"
    refine k _ _ (by walk_at "gr") ?_
    have e : stepIn z = setIn rest := by unfold stepIn; simp only [hn, hm]; rw [if_pos hw]
    rw [e]; exact t2
  · rw [decide_eq_false hw]
    have un : stepIn z = if inV (.str word) withName && isName rest then .tup [.str word, .str rest] else if inV (.str z) alone then .tup [.str z] else .non := by
      unfold stepIn; simp only [hn, hm]; rw [if_neg hw]
    walk_at "s"
    refine w_inQ (Or.inr (T.k_WITH_NAME.2.2 _)) rfl rfl ?_
    walk_at "s"
    cases hi : inV (.str word) withName with
    | true =>
      have hi' : inV (V.str word) [V.str "look", V.str "back", V.str "copy", V.str "in"] = true := hi
      rw [hi']
      walk_at "s"
      refine one_use (by omega) (fun v H2 g2 t2 => ?_)
      obtain rfl := rep_bl' t2
      walk_at "s"
      cases hN : isName rest with
      | true =>
        walk_at "s"
        refine w_kTup (fun q H3 g3 hq e3 => ?_) (by simp)
        walk_at "s"
        refine k _ _ (by walk_at "gr") ?_
        rw [un, hi, hN]
        exact rep_tup e3 (treps_cons (rep_str rfl) (treps_cons (rep_str rfl) treps_nil))
      | false =>
        walk_at "s"
        refine w_inQ (Or.inr (T.k_ALONE.2.2 _)) rfl rfl ?_
        walk_at "s"
        cases ha : inV (.str z) alone with
        | true =>
          have ha' : inV (V.str z) [V.str "begin", V.str "late", V.str "pass"] = true := ha
          rw [ha']
          walk_at "s"
          refine w_kTup (fun q H3 g3 hq e3 => ?_) (by simp)
          walk_at "s"
          refine k _ _ (by walk_at "gr") ?_
          rw [un, hi, hN, ha]
          exact rep_tup e3 (treps_cons (rep_str rfl) treps_nil)
        | false =>
          have ha' : inV (V.str z) [V.str "begin", V.str "late", V.str "pass"] = false := ha
          rw [ha']
          walk_at "s"
          refine k _ _ (by walk_at "gr") ?_
          rw [un, hi, hN, ha]; exact rep_non
    | false =>
      have hi' : inV (V.str word) [V.str "look", V.str "back", V.str "copy", V.str "in"] = false := hi
      rw [hi']
      walk_at "s"
      refine w_inQ (Or.inr (T.k_ALONE.2.2 _)) rfl rfl ?_
      walk_at "s"
      cases ha : inV (.str z) alone with
      | true =>
        have ha' : inV (V.str z) [V.str "begin", V.str "late", V.str "pass"] = true := ha
        rw [ha']
        walk_at "s"
        refine w_kTup (fun q H3 g3 hq e3 => ?_) (by simp)
        walk_at "s"
        refine k _ _ (by walk_at "gr") ?_
        rw [un, hi, ha]
        exact rep_tup e3 (treps_cons (rep_str rfl) treps_nil)
      | false =>
        have ha' : inV (V.str z) [V.str "begin", V.str "late", V.str "pass"] = false := ha
        rw [ha']
        walk_at "s"
        refine k _ _ (by walk_at "gr") ?_
        rw [un, hi, ha]; exact rep_non
end
end RS
set_option Elab.async false
set_option linter.all false
set_option maxRecDepth 100000
set_option maxHeartbeats 4000000

namespace RS
open PySem L2
/-! steps by their heads -/
local macro_rules | `(tactic| walk_at "fr") => `(tactic| first
  | assumption
  | exact SqL.of (by assumption)
  | exact SqT.of (by assumption)
  | exact Or.inl (by assumption)
  | exact Or.inr (by assumption)
  | (refine Gr.get (by assumption) ?_ (by walk_at "nin"); walk_at "fr")
  | (refine Gr.tup (by assumption) _ _ ?_; walk_at "fr")
  | (refine SqL.of ?_; walk_at "fr1")
  | (refine SqT.of ?_; walk_at "fr1")
  | (refine Gr.sqL (by assumption) ?_ (by walk_at "nin"); walk_at "fr")
  | (refine Gr.sqT (by assumption) ?_ (by walk_at "nin"); walk_at "fr")
  | (refine Gr.rep0 (by assumption) ?_; walk_at "fr")
  | (refine Gr.reps0 (by assumption) ?_; walk_at "fr"))
local macro_rules | `(tactic| walk_at "fr1") => `(tactic| first
  | assumption
  | (refine Gr.tup (by assumption) _ _ ?_; walk_at "fr1")
  | (refine Gr.get (by assumption) ?_ (by walk_at "nin"); walk_at "fr1"))
local macro_rules | `(tactic| walk_at "nin") => `(tactic| first
  | exact nin_nil
  | assumption
  | (refine nin_one ?_; walk_at "ne"))
local macro_rules | `(tactic| walk_at "ne") => `(tactic| first
  | assumption
  | exact Ne.symm (by assumption)
  | exact ne_new (by assumption) (by assumption)
  | exact Ne.symm (ne_new (by assumption) (by assumption)))
local macro_rules | `(tactic| walk_at "sz") => `(tactic| first
  | assumption
  | exact rfl
  | omega
  | (simp only [List.length_cons, List.length_nil, List.length_append, List.length_map, CDiv, CDivN, CMul]; omega)
  | decide
  | (constructor <;> first | exact rfl | omega | assumption | (simp only [List.length_cons, List.length_nil, List.length_append, List.length_map]; omega) | decide))
local macro_rules | `(tactic| walk_at "i1") => `(tactic| first
  | ((with_reducible refine' isi_L_list ?vh ?_); (case vh => walk_at "fr"))
  | ((with_reducible refine' isi_T_list ?vh ?_); (case vh => walk_at "fr"))
  | ((with_reducible refine' isi_L_tuple ?vh ?_); (case vh => walk_at "fr"))
  | ((with_reducible refine' isi_T_tuple ?vh ?_); (case vh => walk_at "fr"))
  | ((with_reducible refine' isi_L_str ?vh ?_); (case vh => walk_at "fr"))
  | ((with_reducible refine' isi_T_str ?vh ?_); (case vh => walk_at "fr"))
  | ((with_reducible refine' isi_L_int ?vh ?_); (case vh => walk_at "fr"))
  | ((with_reducible refine' isi_T_int ?vh ?_); (case vh => walk_at "fr"))
  | ((with_reducible refine' isi_L_bool ?vh ?_); (case vh => walk_at "fr"))
  | ((with_reducible refine' isi_T_bool ?vh ?_); (case vh => walk_at "fr")))
local macro_rules | `(tactic| walk_at "s") => `(tactic| repeat (first
  | with_reducible refine Stp.h ?_
  | ((with_reducible refine szc ?_ ?_); walk_at "sz")
  | ((with_reducible refine' w_kTyL ?vh ?_); (case vh => walk_at "fr"))
  | ((with_reducible refine' w_lenL ?vh ?_); (case vh => walk_at "fr"))
  | ((with_reducible refine' w_lenT ?vh ?_); (case vh => walk_at "fr"))))
local macro_rules | `(tactic| walk_at "gr") => `(tactic| first
  | exact Gr.refl _ _
  | assumption
  | exact Gr.wide (by assumption)
  | (refine Gr.trans ?_ (by assumption); walk_at "gr")
  | (refine Gr.trans ?_ (Gr.wide (by assumption)); walk_at "gr"))
local macro_rules | `(tactic| walk_at "s2") => `(tactic| (with_reducible refine Stp.h ?_; with_reducible refine Stp.h ?_))

section
variable {P : Program} {w : World} {K : PySem.W.Frag} {mg : Str → Option Value} {base : Heap}
def spProg (K : PySem.W.Frag) (m : Nat) : Sp := fun vs H Q _ => ∃ (a : Addr) (l : List (Int × PD)) (at_ : Nat) (d : Int), vs = [.ref a, .int (at_ : Int), .int d] ∧ TRep H (.lst (l.map entry)) (.ref a) ∧ l.length ≤ 1000 ∧ at_ ≤ l.length ∧ (∀ p ∈ l, stepOk p.2 ∧ p.1 < d + (m : Int)) ∧
  ∀ v H', Gr [] H H' → TRep H' (.tup [.tup (progC (l.drop at_) d).1, .int ((l.length : Int) - ((progC (l.drop at_) d).2.length : Int))]) v → Q v H'
def spPrev (K : PySem.W.Frag) : Nat → Sp
  | 0 => fun _ _ _ _ => False
  | j + 1 => spProg K j
theorem entry_rep {H : Hp} {p : Int × PD} {v : V} (h : TRep H (entry p) v) : ∃ t y, v = .ref t ∧ H t = some (.tup [.int p.1, y]) ∧ TRep H p.2 y := by
  obtain ⟨t, xs, rfl, e, r⟩ := rep_tup' h
  unfold TReps at r
  obtain ⟨x, r1, rfl, h1, r⟩ := r
  unfold TReps at r
  obtain ⟨y, r2, rfl, h2, r⟩ := r
  unfold TReps at r
  subst r
  obtain rfl := rep_int' h1
  exact ⟨t, y, rfl, e, h2⟩
theorem sc_program_at : FnScope ["found", "at", "depth", "steps", "step", "within"] ["found", "at", "depth"] (defScope s_program_at) := ⟨rfl, rfl, rfl, by decide +kernel, rfl, by decide +kernel, by decide +kernel⟩
theorem prog_turn (T : TX K mg) (m : Nat) (IH : FnOk P w K mg base CX0 m T.d_program_at.a T.d_program_at.d ["found", "at", "depth"] (spPrev K m)) :
    FnOk P w K mg base CX0 (m + 1) T.d_program_at.a T.d_program_at.d ["found", "at", "depth"] (spProg K m) := by
  refine T.d_program_at.F.ok sc_program_at (fun vs H Q E h => ?_) (fun cdv A outer s H vs Q E hr h => ?_)
  · obtain ⟨_, _, _, _, rfl, _⟩ := h; rfl
  obtain ⟨a, l, at_, d, rfl, tl, hn, hat, hp, k⟩ := h
  obtain ⟨_, zs, h0, ea, tz⟩ := rep_lst' tl
  cases h0
  have hzl := treps_len tz
  rw [List.length_map] at hzl
  refine ⟨_, (pss_cons (ps_set (i := 3) sc_program_at.nd rfl (Or.inl rfl) (pe_lst pa_nil))
  (pss_cons (ps_while PassesOwn.never (PW.pt (pw_and (pt_cmpR op_lt (pv 1) (pe_callB (call_lenK (K := K) rfl) (by rfl) T.z_len bt_len (pa_cons (pv 0) pa_nil)) (nomark _)) (pw_and1 (pt_cmpR (op_eqK (K := K) rfl (hu64 hr)) (pe_ix (ix_anyK (K := K) rfl) (pe_ix (ix_anyK (K := K) rfl) (pv 0) (pv 1) (fun _ _ => rfl)) pe_int (fun _ _ => rfl)) (pv 2) (nomark _)))))
    (pss_cons (ps_set (i := 4) sc_program_at.nd rfl (Or.inl rfl) (pe_ix (ix_anyK (K := K) rfl) (pe_ix (ix_anyK (K := K) rfl) (pv 0) (pv 1) (fun _ _ => rfl)) pe_int (fun _ _ => rfl)))
  (pss_cons (ps_aug (i := 1) sc_program_at.nd rfl (Or.inl rfl) pe_int ip_addA)
  (Evl.pss_cut (ps_if (pt_cmpR (op_inK (K := K) rfl) (pe_ix (ix_anyK (K := K) rfl) (pv 4) pe_int (fun _ _ => rfl)) (pe_glob (v := .ref T.k_BLOCKS.1) (by rfl) T.k_BLOCKS.2.1 rfl) (by rfl))
    (pss_cons (ps_asg (pe_call IH hr (by rfl) T.d_program_at.g T.d_program_at.F.kp T.d_program_at.b .nil pass0 (pa_cons (pv 0) (pa_cons (pv 1) (pa_cons (pe_op (op_addK (K := K) rfl) (pv 2) pe_int) pa_nil)))) (pg_tupK (K := K) (n := 2) rfl rfl (pgs_cons (pg_name (i := 5) sc_program_at.nd rfl (Or.inl rfl)) (pgs_cons (pg_name (i := 1) sc_program_at.nd rfl (Or.inl rfl)) pgs_nil))))
  (pss_one (ps_set (i := 4) sc_program_at.nd rfl (Or.inl rfl) (pe_op (op_addK (K := K) rfl) (pv 4) (pe_tup (pa_cons (pv 5) pa_nil))))))
    pss_nil)
  (pss_one (ps_expr (pe_bmK (K := K) rfl PySem.F.plainAttrs_list PySem.F.slot_list_append PySem.F.type_list_append mt_append (pv 3) (pa_cons (pv 4) pa_nil))))))))
  (pss_one (ps_ret (pe_tup (pa_cons (pe_callTy (call_tupK (K := K) rfl) (by rfl) T.z_tuple bt_tuple (pa_cons (pv 3) pa_nil)) (pa_cons (pv 1) pa_nil))))))), ?_⟩
  refine at_start [some (.ref a), some (.int (at_ : Int)), some (.int d), none, none, none] rfl ?_
  walk_at "s"
  refine w_kLst (fun f H1 g1 hf e1 => ?_) (by simp)
  walk_at "s"
  obtain ⟨W, hW⟩ : ∃ W : Nat → L2.St → Hp → Prop, W = fun μ σ H' => ∃ (at1 : Nat) (dn : List PD) (xs : List V) (v4 v5 : Option V), σ = [some (.ref a), some (.int (at1 : Int)), some (.int d), some (.ref f), v4, v5] ∧ Gr [] H H' ∧ H' f = some (.lst xs) ∧ TReps H' dn xs ∧ PD.fixs dn = true ∧
    at1 ≤ l.length ∧ μ = l.length - at1 ∧ dn.length ≤ at1 ∧ progC (l.drop at_) d = (dn ++ (progC (l.drop at1) d).1, (progC (l.drop at1) d).2) := ⟨_, rfl⟩
  refine ⟨W, ⟨l.length - at_, by rw [hW]; exact ⟨at_, [], [], none, none, rfl, g1, e1, treps_nil, rfl, hat, rfl, Nat.zero_le _, rfl⟩⟩, ?_⟩
  intro μ σ H2 hw2
  rw [hW] at hw2
  obtain ⟨at1, dn, xs, v4, v5, rfl, g2, e2, t2, fx, h1, rfl, hdl, hpc⟩ := hw2
  have ea2 : H2 a = some (.lst zs) := g2.get0 ea
  have fin : (progC (l.drop at1) d) = ([], l.drop at1) → ∀ q H3, Gr [] H2 H3 → H3 q = some (.tup xs) → ∀ q2 H4, Gr [] H3 H4 → H4 q2 = some (.tup [.ref q, .int (at1 : Int)]) → Q (.ref q2) H4 := by
    intro hnil q H3 g3 e3 q2 H4 g4 e4
    refine k _ _ (g2.trans (g3.trans g4)) ?_
    rw [hpc, hnil]
    refine rep_tup e4 (treps_cons (rep_tup (g4.get0 e3) ?_) (treps_cons (rep_int ?_) treps_nil))
    · rw [List.append_nil]; exact g4.reps0 (g3.reps0 t2)
    · simp only [List.length_drop]; omega
  have hlx := treps_len t2
  walk_at "s"
  by_cases hlt : at1 < l.length
  · rw [decide_eq_true (show (at1 : Int) < (zs.length : Int) by omega)]
    obtain ⟨e, st, hes⟩ : ∃ e st, l[at1]? = some (e, st) := ⟨_, _, List.getElem?_eq_getElem hlt⟩
    have hdr : l.drop at1 = (e, st) :: l.drop (at1 + 1) := by
      rw [List.drop_eq_getElem_cons hlt]
      exact congrArg (· :: _) (List.getElem?_eq_some_iff.mp hes).2
    obtain ⟨x, hx, tx⟩ := treps_get' (tz) (show (l.map entry)[at1]? = some (entry (e, st)) by rw [List.getElem?_map, hes]; rfl)
    obtain ⟨t, y, rfl, et, ty⟩ := entry_rep tx
    have et2 := g2.get0 et
    have ty2 := g2.rep0 ty
    obtain ⟨⟨sfx, sn, sr, rfl, hsr⟩, hlow⟩ := hp (e, st) (List.mem_of_getElem? hes)
    walk_at "s"
    refine w_ixL (SqL.of ea2) (atI_nat' hx) ?_
    walk_at "s"
    refine w_ixT (SqT.of et2) (atI_zero rfl) ?_
    walk_at "s"
    by_cases hed : e = d
    · subst hed
      rw [decide_eq_true rfl]
      walk_at "s"
      refine ⟨fun σ' H' => ∃ m', m' < l.length - at1 ∧ W m' σ' H', fun _ _ h => h, ?_⟩
      walk_at "s"
      refine w_ixL (SqL.of ea2) (atI_nat' hx) ?_
      walk_at "s"
      refine w_ixT (SqT.of et2) (show atI _ 1 = some y from rfl) ?_
      walk_at "s"
      obtain ⟨b, ys, rfl, eb, tys⟩ := rep_tup' ty2
      have tys' := tys
      unfold TReps at tys'
      obtain ⟨x1, r1, rfl, tx1, _⟩ := tys'
      obtain rfl := rep_str' tx1
      have hib : inBlocks (.tup (.str sn :: sr)) = inV (V.str sn) [V.str "begin", V.str "late", V.str "in"] := rfl
      refine w_cut (Mid := fun σ' H' => ∃ (at2 : Nat) (y2 : V) (st2 : PD) (v5 : Option V), σ' = [some (.ref a), some (.int (at2 : Int)), some (.int e), some (.ref f), some y2, v5] ∧ Gr [] H2 H' ∧ TRep H' st2 y2 ∧ st2.fix = true ∧ at1 + 1 ≤ at2 ∧ at2 ≤ l.length ∧
        progC (l.drop at1) e = (st2 :: (progC (l.drop at2) e).1, (progC (l.drop at2) e).2)) ?_ ?_
      · walk_at "s"
        refine w_ixT (SqT.of eb) (atI_zero rfl) ?_
        walk_at "s"
        refine w_inQ (Or.inr (T.k_BLOCKS.2.2 _)) rfl rfl ?_
        rw [← hib]
        walk_at "s"
        cases hb : inBlocks (.tup (.str sn :: sr)) with
        | false =>
          walk_at "s"
          refine ⟨at1 + 1, _, _, _, rfl, Gr.refl _ _, ty2, sfx, Nat.le_refl _, hlt, ?_⟩
          rw [hdr, progC_plain hb]
        | true =>
          walk_at "s"
          cases m with
          | zero => exact absurd hlow (by simp)
          | succ j =>
            obtain ⟨k1, hk1, hs1⟩ := progC_suffix (l.drop (at1 + 1)) (e + 1)
            rw [List.length_drop] at hk1
            rw [List.drop_drop] at hs1
            refine ⟨a, l, at1 + 1, e + 1, rfl, rep_lst ea2 (g2.reps0 tz), hn, hlt, fun p hp' => ⟨(hp p hp').1, by have := (hp p hp').2; omega⟩, fun v H3 g3 t3 => ?_⟩
            obtain ⟨q, us, rfl, eq, tu⟩ := rep_tup' t3
            unfold TReps at tu
            obtain ⟨u1, us1, rfl, tu1, tu⟩ := tu
            unfold TReps at tu
            obtain ⟨u2, us2, rfl, tu2, tu⟩ := tu
            unfold TReps at tu
            subst tu
            obtain rfl := rep_int' tu2
            refine w_gtup (SqT.of eq) rfl ?_
            walk_at "s"
            refine w_kTup (fun q4 H4 g4 hq4 e4 => ?_) (by simp)
            have eb4 := g4.get0 (g3.get0 eb)
            have hyl := treps_len tys
            refine w_addT (SqT.of eb4) (SqT.of e4) (by simp) (by simp) (by simp only [List.length_cons, List.length_nil] at hyl ⊢; omega) (fun q5 H5 g5 hq5 e5 => ?_)
            walk_at "s"
            have hat2 : ((l.length : Int) - ((progC (l.drop (at1 + 1)) (e + 1)).2.length : Int)) = ((at1 + 1 + k1 : Nat) : Int) := by
              rw [hs1, List.length_drop]; omega
            rw [hat2]
            refine ⟨at1 + 1 + k1, _, addW (.tup (.str sn :: sr)) (progC (l.drop (at1 + 1)) (e + 1)).1, _, rfl, g3.trans (g4.trans g5), ?_, ?_, by omega, by omega, ?_⟩
            · exact rep_tup e5 (treps_append (g5.reps0 (g4.reps0 (g3.reps0 tys))) (treps_cons (g5.rep0 (g4.rep0 tu1)) treps_nil))
            · exact addW_fix sfx (progC_fix fun p hp' => (hp p (List.mem_of_mem_drop hp')).1.1)
            · rw [hdr, progC_block hb, hs1]
      · rintro σ' H3 ⟨at2, y2, st2, v5', rfl, g3, t3, f3, ha1, ha2, hp2⟩
        have e3 := g3.get0 e2
        walk_at "s"
        refine w_app e3 (by omega) (fun H4 g4 e4 => ?_)
        walk_at "s"
        refine ⟨l.length - at2, by omega, ?_⟩
        rw [hW]
        refine ⟨at2, dn ++ [st2], xs ++ [y2], _, _, rfl, (g2.trans g3).transF g4 hf, e4, ?_, ?_, ha2, rfl, ?_, ?_⟩
        · exact treps_append (Gr.reps1 g4 fx (g3.reps0 t2)) (treps_cons (g4.rep t3 f3) treps_nil)
        · rw [fixs_append, fx]; simp [PD.fixs, f3]
        · rw [List.length_append, List.length_singleton]; omega
        · rw [hpc, hp2, List.append_assoc]; rfl
    · rw [decide_eq_false (show ¬ (V.int e = V.int d) from fun h => hed (by injection h))]
      walk_at "s"
      refine w_tuple (SqL.of e2) (fun q H3 g3 hq e3 => ?_)
      walk_at "s"
      refine w_kTup (fun q2 H4 g4 hq2 e4 => ?_) (by simp)
      walk_at "s"
      exact fin (by rw [hdr]; exact progC_other hed) q H3 g3 e3 q2 H4 g4 e4
  · rw [decide_eq_false (show ¬ (at1 : Int) < (zs.length : Int) by omega)]
    walk_at "s"
    refine w_tuple (SqL.of e2) (fun q H3 g3 hq e3 => ?_)
    walk_at "s"
    refine w_kTup (fun q2 H4 g4 hq2 e4 => ?_) (by simp)
    walk_at "s"
    have hnil : l.drop at1 = [] := by apply List.drop_eq_nil_of_le; omega
    exact fin (by rw [hnil]; rfl) q H3 g3 e3 q2 H4 g4 e4
theorem ok_program_at (T : TX K mg) : ∀ m : Nat, FnOk P w K mg base CX0 (m + 1) T.d_program_at.a T.d_program_at.d ["found", "at", "depth"] (spProg K m)
  | 0 => prog_turn T 0 ⟨fun _ _ _ _ h => h.elim, fun _ _ _ _ _ _ _ _ _ _ _ _ _ h => h.elim⟩
  | m + 1 => prog_turn T (m + 1) (ok_program_at T m)
end
end RS
set_option Elab.async false
set_option linter.all false
set_option maxRecDepth 100000
set_option maxHeartbeats 4000000

namespace RS
open PySem L2
/-! steps by their heads -/
local macro_rules | `(tactic| walk_at "fr") => `(tactic| first
  | assumption
  | exact SqL.of (by assumption)
  | exact SqT.of (by assumption)
  | exact Or.inl (by assumption)
  | exact Or.inr (by assumption)
  | (refine Gr.get (by assumption) ?_ (by walk_at "nin"); walk_at "fr")
  | (refine Gr.tup (by assumption) _ _ ?_; walk_at "fr")
  | (refine SqL.of ?_; walk_at "fr1")
  | (refine SqT.of ?_; walk_at "fr1")
  | (refine Gr.sqL (by assumption) ?_ (by walk_at "nin"); walk_at "fr")
  | (refine Gr.sqT (by assumption) ?_ (by walk_at "nin"); walk_at "fr")
  | (refine Gr.rep0 (by assumption) ?_; walk_at "fr")
  | (refine Gr.reps0 (by assumption) ?_; walk_at "fr"))
local macro_rules | `(tactic| walk_at "fr1") => `(tactic| first
  | assumption
  | (refine Gr.tup (by assumption) _ _ ?_; walk_at "fr1")
  | (refine Gr.get (by assumption) ?_ (by walk_at "nin"); walk_at "fr1"))
local macro_rules | `(tactic| walk_at "nin") => `(tactic| first
  | exact nin_nil
  | assumption
  | (refine nin_one ?_; walk_at "ne"))
local macro_rules | `(tactic| walk_at "ne") => `(tactic| first
  | assumption
  | exact Ne.symm (by assumption)
  | exact ne_new (by assumption) (by assumption)
  | exact Ne.symm (ne_new (by assumption) (by assumption)))
local macro_rules | `(tactic| walk_at "sz") => `(tactic| first
  | assumption
  | exact rfl
  | omega
  | (simp only [List.length_cons, List.length_nil, List.length_append, List.length_map, CDiv, CDivN, CMul]; omega)
  | decide
  | (constructor <;> first | exact rfl | omega | assumption | (simp only [List.length_cons, List.length_nil, List.length_append, List.length_map]; omega) | decide))
local macro_rules | `(tactic| walk_at "i1") => `(tactic| first
  | ((with_reducible refine' isi_L_list ?vh ?_); (case vh => walk_at "fr"))
  | ((with_reducible refine' isi_T_list ?vh ?_); (case vh => walk_at "fr"))
  | ((with_reducible refine' isi_L_tuple ?vh ?_); (case vh => walk_at "fr"))
  | ((with_reducible refine' isi_T_tuple ?vh ?_); (case vh => walk_at "fr"))
  | ((with_reducible refine' isi_L_str ?vh ?_); (case vh => walk_at "fr"))
  | ((with_reducible refine' isi_T_str ?vh ?_); (case vh => walk_at "fr"))
  | ((with_reducible refine' isi_L_int ?vh ?_); (case vh => walk_at "fr"))
  | ((with_reducible refine' isi_T_int ?vh ?_); (case vh => walk_at "fr"))
  | ((with_reducible refine' isi_L_bool ?vh ?_); (case vh => walk_at "fr"))
  | ((with_reducible refine' isi_T_bool ?vh ?_); (case vh => walk_at "fr")))
local macro_rules | `(tactic| walk_at "s") => `(tactic| repeat (first
  | with_reducible refine Stp.h ?_
  | ((with_reducible refine szc ?_ ?_); walk_at "sz")
  | ((with_reducible refine' w_kTyL ?vh ?_); (case vh => walk_at "fr"))
  | ((with_reducible refine' w_lenL ?vh ?_); (case vh => walk_at "fr"))
  | ((with_reducible refine' w_lenT ?vh ?_); (case vh => walk_at "fr"))))
local macro_rules | `(tactic| walk_at "gr") => `(tactic| first
  | exact Gr.refl _ _
  | assumption
  | exact Gr.wide (by assumption)
  | (refine Gr.trans ?_ (by assumption); walk_at "gr")
  | (refine Gr.trans ?_ (Gr.wide (by assumption)); walk_at "gr"))
local macro_rules | `(tactic| walk_at "s2") => `(tactic| (with_reducible refine Stp.h ?_; with_reducible refine Stp.h ?_))

section
variable {P : Program} {w : World} {K : PySem.W.Frag} {mg : Str → Option Value} {base : Heap}
theorem deq_str (a b : Str) : decide ((V.str a : V) = V.str b) = decide (a = b) := by simp only [V.str.injEq]
theorem sc_setting_in : FnScope ["row", "word", "gap", "rest", "name", "more", "written", "value"] ["row"] (defScope s_setting_in) := ⟨rfl, rfl, rfl, by decide +kernel, rfl, by decide +kernel, by decide +kernel⟩
theorem ok_setting_in (T : TX K mg) : FnOk P w K mg base CX0 5 T.d_setting_in.a T.d_setting_in.d ["row"] (spD (one fun z => settingIn z)) := by
  refine T.d_setting_in.F.ok sc_setting_in (fun vs H Q E h => one_len h) (fun cdv A outer s H vs Q E hr h => ?_)
  obtain ⟨d, h, k⟩ := h
  obtain ⟨z, rfl, hz, rfl⟩ := one_open h
  have pl := part_len z " "
  have pl2 := part_len (Txt.partition z " ").2.2 " "
  refine ⟨_, (pss_cons (ps_asg (pe_m1 PySem.F.slot_str_partition PySem.F.type_str_partition mt_partitionA (pv 0) pe_str) (pg_tupK (K := K) (n := 3) rfl rfl (pgs_cons (pg_name (i := 1) sc_setting_in.nd rfl (Or.inl rfl)) (pgs_cons (pg_name (i := 2) sc_setting_in.nd rfl (Or.inl rfl)) (pgs_cons (pg_name (i := 3) sc_setting_in.nd rfl (Or.inl rfl)) pgs_nil)))))
  (pss_cons (ps_asg (pe_m1 PySem.F.slot_str_partition PySem.F.type_str_partition mt_partitionA (pv 3) pe_str) (pg_tupK (K := K) (n := 3) rfl rfl (pgs_cons (pg_name (i := 4) sc_setting_in.nd rfl (Or.inl rfl)) (pgs_cons (pg_name (i := 5) sc_setting_in.nd rfl (Or.inl rfl)) (pgs_cons (pg_name (i := 6) sc_setting_in.nd rfl (Or.inl rfl)) pgs_nil)))))
  (pss_cons (ps_if (PW.pt (pw_or (pt_cmpR (op_neK (K := K) rfl (hu64 hr)) (pv 1) (pe_glob (v := (.str "setting")) (by rfl) T.k_SETTING.2 ⟨_, rfl⟩) (nomark _)) (pw_or1 (pt_not (pt_val (pe_call (ok_is_name T) (hr.mono (by decide)) (by rfl) T.d_is_name.g T.d_is_name.F.kp T.d_is_name.b .nil pass0 (pa_cons (pv 4) pa_nil)))))))
    (pss_one (ps_ret pe_non))
    pss_nil)
  (pss_cons (ps_set (i := 7) sc_setting_in.nd rfl (Or.inl rfl) pe_non)
  (Evl.pss_cut (ps_if (pt_cmpR (op_eqK (K := K) rfl (hu64 hr)) (pv 5) pe_str (nomark _))
    (pss_cons (ps_set (i := 7) sc_setting_in.nd rfl (Or.inl rfl) (pe_call (ok_value_in T) (hr.mono (by decide)) (by rfl) T.d_value_in.g T.d_value_in.F.kp T.d_value_in.b .nil pass0 (pa_cons (pv 6) pa_nil)))
  (pss_one (ps_if (pt_cmp (pc_isN (pv 7)) rfl)
    (pss_one (ps_ret pe_non))
    pss_nil)))
    pss_nil)
  (pss_one (ps_ret (pe_tup (pa_cons (pv 4) (pa_cons (pv 7) pa_nil)))))))))), ?_⟩
  refine at_start [some (.str z), none, none, none, none, none, none, none] rfl ?_
  walk_at "s"
  refine w_part1 (by decide +kernel) (by omega) (fun p H1 g1 hp e1 => ?_)
  refine w_gtup (SqT.of e1) rfl ?_
  walk_at "s"
  refine w_part1 (by decide +kernel) (by omega) (fun p2 H2 g2 hp2 e2 => ?_)
  refine w_gtup (SqT.of e2) rfl ?_
  walk_at "s"
  obtain ⟨d0, un⟩ : ∃ d0, d0 = settingIn z := ⟨_, rfl⟩
  rw [← un] at k
  unfold settingIn at un
  simp only [] at un
  generalize hn : (Txt.partition z " ").1 = word at *
  generalize hm : (Txt.partition z " ").2.2 = rest at *
  generalize hn2 : (Txt.partition rest " ").1 = name at *
  generalize hm2 : (Txt.partition rest " ").2.1 = more at *
  generalize hw2 : (Txt.partition rest " ").2.2 = written at *
  rw [deq_str]
  by_cases hw : word = ("setting" : Str)
  · rw [decide_eq_true hw]
    walk_at "s"
    refine one_use (by omega) (fun v3 H3 g3 t3 => ?_)
    obtain rfl := rep_bl' t3
    walk_at "s"
    cases hN : isName name with
    | false =>
      walk_at "s"
      refine k _ _ (by walk_at "gr") ?_
      rw [un, hN]; simp only [Bool.not_false, Bool.or_true, if_true]; exact rep_non
    | true =>
      rw [if_neg (by rw [decide_eq_true hw, hN]; decide)] at un
      walk_at "s"
      refine w_cut (Mid := fun σ' H' => ∃ (v : V) (dv : PD), σ' = [some (.str z), some (.str word), some (.str (Txt.partition z " ").2.1), some (.str rest), some (.str name), some (.str more), some (.str written), some v] ∧ Gr [] H3 H' ∧ TRep H' dv v ∧ d0 = .tup [.str name, dv]) ?_ ?_
      · walk_at "s"
        rw [deq_str]
        by_cases hb : more = (" " : Str)
        · rw [decide_eq_true hb]
          rw [if_pos hb] at un
          walk_at "s"
          refine one_use (by omega) (fun v4 H4 g4 t4 => ?_)
          walk_at "s"
          cases hv : valueIn written with
          | non =>
            rw [hv] at t4 un
            obtain rfl := rep_non' t4
            walk_at "s"
            refine k _ _ (by walk_at "gr") ?_
            rw [un]; exact rep_non
          | int i =>
            rw [hv] at t4 un
            obtain rfl := rep_int' t4
            walk_at "s"
            exact ⟨_, .int i, rfl, g4, rep_int rfl, un⟩
          | str i =>
            rw [hv] at t4 un
            obtain rfl := rep_str' t4
            walk_at "s"
            exact ⟨_, .str i, rfl, g4, rep_str rfl, un⟩
          | bl i =>
            rw [hv] at t4 un
            obtain rfl := rep_bl' t4
            walk_at "s"
            exact ⟨_, .bl i, rfl, g4, rep_bl rfl, un⟩
          | ref i => exact absurd hv (valueIn_flat _).1
          | ty i => exact absurd hv (valueIn_flat _).2.1
          | ro i => exact absurd hv (valueIn_flat _).2.2
          | tup i =>
            rw [hv] at t4 un
            obtain ⟨b, xs, rfl, _, _⟩ := rep_tup' t4
            walk_at "s"
            exact ⟨_, .tup i, rfl, g4, t4, un⟩
          | lst i =>
            rw [hv] at t4 un
            obtain ⟨b, xs, rfl, _, _⟩ := rep_lst' t4
            walk_at "s"
            exact ⟨_, .lst i, rfl, g4, t4, un⟩
        · rw [decide_eq_false hb]
          rw [if_neg hb] at un
          walk_at "s"
          exact ⟨_, .non, rfl, Gr.refl _ _, rep_non, un⟩
      · rintro σ' H' ⟨v, dv, rfl, g, tv, e⟩
        walk_at "s"
        refine w_kTup (fun q H6 g6 hq e6 => ?_) (by simp)
        walk_at "s"
        refine k _ _ (by walk_at "gr") ?_
        rw [e]
        exact rep_tup e6 (treps_cons (rep_str rfl) (treps_cons (g6.rep0 tv) treps_nil))
  · rw [decide_eq_false hw]
    walk_at "s"
    refine k _ _ (by walk_at "gr") ?_
    rw [un, decide_eq_false hw]; simp only [Bool.not_false, Bool.true_or, if_true]; exact rep_non
theorem sc_pick_in : FnScope ["word", "sign"] ["word"] (defScope s_pick_in) := ⟨rfl, rfl, rfl, by decide +kernel, rfl, by decide +kernel, by decide +kernel⟩
theorem ok_pick_in (T : TX K mg) : FnOk P w K mg base CX0 1 T.d_pick_in.a T.d_pick_in.d ["word"] (spD (one fun z => optI (pickIn z))) := by
  refine T.d_pick_in.F.ok sc_pick_in (fun vs H Q E h => one_len h) (fun cdv A outer s H vs Q E hr h => ?_)
  obtain ⟨d, h, k⟩ := h
  obtain ⟨z, rfl, hz, rfl⟩ := one_open h
  refine ⟨_, (pss_cons (ps_if (PW.pt (pw_or (pt_not (pt_chain op_leA op_leA pe_int (pe_callB (call_lenK (K := K) rfl) (by rfl) T.z_len bt_len (pa_cons (pv 0) pa_nil)) (pe_glob (v := (.int 4)) (by rfl) T.k_MOST_FIGURES_sheet.2 ⟨_, rfl⟩))) (pw_or1 (pt_not (pt_val (pe_callB (cr_allK (K := K) rfl rfl) (by rfl) T.z_all bt_all (pa_cons (pe_lc (own := [("sign", 1)]) rfl sc_pick_in.nd (pi_anyK (K := K) rfl (pv 0)) (blkOk_by (N := ["word", "sign"]) (sc := defScope s_pick_in) (own := [("sign", 1)]) (by decide +kernel)) (fun _ _ _ _ _ => (pg_name (i := 1) sc_pick_in.nd rfl (Or.inl rfl))) (fun _ _ _ _ _ => pts_nil) (fun _ _ _ _ _ => (pe_cmpR (op_inK (K := K) rfl) (pv 1) (pe_glob (v := (.str "0123456789")) (by rfl) T.k_FIGURES.2 ⟨_, rfl⟩) (by rfl)))) pa_nil)))))))
    (pss_one (ps_ret pe_non))
    pss_nil)
  (pss_cons (ps_if (PW.pt (pw_and (pt_cmpR (op_eqK (K := K) rfl (hu64 hr)) (pe_ix (ix_anyK (K := K) rfl) (pv 0) pe_int (fun _ _ => rfl)) pe_str (nomark _)) (pw_and1 (pt_cmpR (op_neK (K := K) rfl (hu64 hr)) (pv 0) pe_str (nomark _)))))
    (pss_one (ps_ret pe_non))
    pss_nil)
  (pss_one (ps_ret (pe_callTy call_intA (by rfl) T.z_int bt_int (pa_cons (pv 0) pa_nil)))))), ?_⟩
  refine at_start [some (.str z), none] rfl ?_
  walk_at "s"
  have stop : figsOk z 4 = false → pickIn z = none := fun e => by unfold pickIn; rw [e]; rfl
  refine iteB (fun h1 => ?_) (fun h1 => ?_)
  · walk_at "s"
    refine iteB (fun h2 => ?_) (fun h2 => ?_)
    · walk_at "s"
      refine k _ _ (by walk_at "gr") ?_
      rw [stop (by simp only [figsOk, h1]; simp at h2; simp; omega)]; exact rep_non
    · walk_at "s"
      refine w_iS' ?_
      walk_at "s"
      refine lc_signs [some (.str z), none] rfl (fun c => .bl (decide (c ∈ FIGS.cps.toList))) (by omega) (fun c H1 hc g1 R A kA => ?_) (fun D H1 g1 hD e => ?_)
      · walk_at "s"
        refine ⟨rfl, ?_⟩
        walk_at "s"
        exact kA _ (Gr.refl _ _)
      · walk_at "s"
        refine w_all (bs := z.cps.toList.map fun c => decide (c ∈ FIGS.cps.toList)) (SqL.of (by rw [e, List.map_map]; rfl)) ?_
        walk_at "s"
        have eo : figsOk z 4 = (z.cps.toList.map fun c => decide (c ∈ FIGS.cps.toList)).all id := by simp only [figsOk, h1]; simp at h2; simp [h2]
        refine iteB (fun h3 => ?_) (fun h3 => ?_)
        · walk_at "s"
          refine k _ _ (by walk_at "gr") ?_
          rw [stop (by rw [eo]; simpa using h3)]; exact rep_non
        · have ok : figsOk z 4 = true := by rw [eo]; simpa using h3
          obtain ⟨hd, hn, _⟩ := figs_digits ok
          cases hl : z.cps.toList with
          | nil => exact absurd hl hn
          | cons c r =>
            walk_at "s"
            refine w_ixS (by omega) (atI_zero hl) ?_
            walk_at "s"
            have l0 : lead0 z = decide (c = 48) := by unfold lead0; rw [hl]
            rw [sign_eq (k := 48) (by decide +kernel)]
            have num : ∀ b : Bool, (lead0 z && !decide (z = ("0" : Str))) = b → pickIn z = if b then none else some ((NumText.digitsVal z.cps.toList : Nat) : Int) := by
              intro b hb; unfold pickIn; rw [ok, hb]; cases b <;> rfl
            refine iteB (fun h4 => ?_) (fun h4 => ?_)
            · walk_at "s"
              rw [deq_str]
              refine iteB (fun h5 => ?_) (fun h5 => ?_)
              · walk_at "s"
                refine k _ _ (by walk_at "gr") ?_
                rw [num true (by rw [l0, h4]; exact h5)]; exact rep_non
              · walk_at "s"
                refine w_intS (pick_reads ok).1 (pick_reads ok).2 ?_
                walk_at "s"
                refine k _ _ (by walk_at "gr") ?_
                rw [num false (by rw [l0, h4]; exact h5)]; exact rep_int rfl
            · walk_at "s"
              refine w_intS (pick_reads ok).1 (pick_reads ok).2 ?_
              walk_at "s"
              refine k _ _ (by walk_at "gr") ?_
              rw [num false (by rw [l0, h4]; rfl)]; exact rep_int rfl
  · walk_at "s"
    refine k _ _ (by walk_at "gr") ?_
    rw [stop (by simp only [figsOk, h1]; rfl)]; exact rep_non
def optIV : Option Int → V
  | some i => .int i
  | none => .non
theorem rep_optI {H : Hp} {o : Option Int} {v : V} (h : TRep H (optI o) v) : v = optIV o := by
  cases o with
  | none => exact rep_non' h
  | some i => exact rep_int' h
theorem allSome_none : ∀ {l : List (Option Int)}, inV .non (l.map optIV) = (allSome l).isNone
  | [] => rfl
  | none :: r => by simp [inV, allSome, optIV, eqV]
  | some i :: r => by
    have := allSome_none (l := r)
    simp only [List.map_cons, inv_cons, this, optIV, allSome, Option.isNone_map]
    rfl
theorem allSome_map : ∀ {l : List (Option Int)} {ps : List Int}, allSome l = some ps → l.map optIV = ps.map V.int
  | [], ps, h => by cases h; rfl
  | none :: r, ps, h => by cases h
  | some i :: r, ps, h => by
    simp only [allSome, Option.map_eq_some_iff] at h
    obtain ⟨q, h1, rfl⟩ := h
    simp only [List.map_cons, allSome_map h1]; rfl
def spPicks : Sp := fun vs H Q _ => ∃ z, vs = [.str z] ∧ z.length ≤ 1000000 ∧ ∀ v H', Gr [] H H' → (match picksIn z with
  | none => v = .non
  | some ps => ∃ p, v = .ref p ∧ H p = none ∧ H' p = some (.lst (ps.map V.int))) → Q v H'
theorem cutV_tail (x : V) (xs : List V) : cutV (x :: xs) (some 1) none = xs := by
  unfold cutV
  have e0 : HT.sIx (x :: xs).length 0 (some 1) = 1 := by
    have := HT.sIx_nat (x :: xs).length 0 1
    refine Eq.trans this ?_
    simp
  rw [e0, HT.sIx_none]; simp
theorem sc_picks_in : FnScope ["row", "words", "picks", "word"] ["row"] (defScope s_picks_in) := ⟨rfl, rfl, rfl, by decide +kernel, rfl, by decide +kernel, by decide +kernel⟩
theorem ok_picks_in (T : TX K mg) : FnOk P w K mg base CX0 2 T.d_picks_in.a T.d_picks_in.d ["row"] spPicks := by
  refine T.d_picks_in.F.ok sc_picks_in (fun vs H Q E h => ?_) (fun cdv A outer s H vs Q E hr h => ?_)
  · obtain ⟨z, rfl, _⟩ := h; rfl
  obtain ⟨z, rfl, hz, k⟩ := h
  obtain ⟨sne, sl, sm⟩ := split_blank z
  refine ⟨_, (pss_cons (ps_set (i := 1) sc_picks_in.nd rfl (Or.inl rfl) (pe_m1 PySem.F.slot_str_split PySem.F.type_str_split mt_splitA (pv 0) pe_str))
  (pss_cons (ps_setLc (i := 2) (own := [("word", 3)]) rfl sc_picks_in.nd rfl rfl (sw_true rfl rfl rfl (by decide +kernel)) (pi_anyK (K := K) rfl (pe_slice (sl_anyK (K := K) rfl) (pv 1) (po_some pe_int) po_none)) (blkOk_by (N := ["row", "words", "picks", "word"]) (sc := defScope s_picks_in) (own := [("word", 3)]) (by decide +kernel)) (fun _ _ _ _ _ => (pg_name (i := 3) sc_picks_in.nd rfl (Or.inl rfl))) (fun _ _ _ _ _ => pts_nil) (fun _ _ _ _ _ => (pe_call (ok_pick_in T) (hr.mono (by decide)) (by rfl) T.d_pick_in.g T.d_pick_in.F.kp T.d_pick_in.b .nil pass0 (pa_cons (pv 3) pa_nil))))
  (pss_cons (ps_if (PW.pt (pw_or (pt_cmpR (op_neK (K := K) rfl (hu64 hr)) (pe_ix (ix_anyK (K := K) rfl) (pv 1) pe_int (fun _ _ => rfl)) (pe_glob (v := (.str "weave")) (by rfl) T.k_WEAVE.2 ⟨_, rfl⟩) (nomark _)) (pw_or1 (pt_cmpR (op_inK (K := K) rfl) pe_non (pv 2) (by rfl)))))
    (pss_one (ps_ret pe_non))
    pss_nil)
  (pss_one (ps_ret (pv 2)))))), ?_⟩
  refine at_start [some (.str z), none, none, none] rfl ?_
  walk_at "s"
  refine w_split (by decide +kernel) (by omega) (fun p H1 g1 hp e1 => ?_)
  have un : picksIn z = match Txt.split z " " with
    | [] => none
    | w0 :: r => if w0 = ("weave" : Str) then allSome (r.map pickIn) else none := rfl
  generalize hs : Txt.split z " " = ws at *
  cases ws with
  | nil => exact absurd rfl sne
  | cons w0 r =>
    simp only [] at un
    walk_at "s"
    refine w_iL' ?_
    walk_at "s"
    refine w_slL (SqL.of e1) (fun p2 H2 g2 hp2 e2 => ?_)
    rw [List.map_cons, cutV_tail] at e2
    refine w_kIL (SqL.of e2) ?_
    refine lc_pure [some (.str z), some (.ref p), none, none] rfl (walk_listE (xs := r.map V.str)) rfl (fun H' g => g.sqL (SqL.of e2) nin_nil) (fun _ => true) (fun x => match x with | .str s => optIV (pickIn s) | _ => .non) (fun x H3 hx g3 R A kA kR => ?_) (by simp only [List.length_map, List.length_cons] at sm ⊢; omega) (fun D H3 g3 hD e3 => ?_)
    · obtain ⟨w1, hw1, rfl⟩ := List.mem_map.mp hx
      walk_at "s"
      refine ⟨rfl, ?_⟩
      walk_at "s"
      refine one_use (Nat.le_trans (sl w1 (List.mem_cons_of_mem _ hw1)) hz) (fun v4 H4 g4 t4 => ?_)
      obtain rfl := rep_optI t4
      exact kA _ g4 rfl
    · have e3' : H3 D = some (.lst ((r.map pickIn).map optIV)) := by
        rw [e3, filter_true, List.map_map, List.map_map]; rfl
      walk_at "s"
      refine w_ixL (SqL.of (g3.get0 (g2.get0 e1))) (atI_zero rfl) ?_
      walk_at "s"
      rw [deq_str]
      by_cases h0 : w0 = ("weave" : Str)
      · rw [decide_eq_true h0]
        rw [if_pos h0] at un
        walk_at "s"
        refine w_inQ (Or.inl (SqL.of e3')) rfl (by simp only [List.all_map]; simp only [List.all_eq_true]; intro q _; cases hq : pickIn q <;> simp [optIV, flatV, hq]) ?_
        rw [allSome_none]
        walk_at "s"
        cases ha : allSome (r.map pickIn) with
        | none =>
          rw [ha] at un
          rw [show (none : Option (List Int)).isNone = true from rfl]
          walk_at "s"
          exact k _ _ (by walk_at "gr") (by rw [un])
        | some ps =>
          rw [ha] at un
          rw [show (some ps).isNone = false from rfl]
          walk_at "s"
          refine k _ _ (by walk_at "gr") ?_
          rw [un]
          exact ⟨D, rfl, (g1.trans g2).free hD, by rw [e3', allSome_map ha]⟩
      · rw [decide_eq_false h0]
        rw [if_neg h0] at un
        walk_at "s"
        exact k _ _ (by walk_at "gr") (by rw [un])
end
end RS
set_option Elab.async false
set_option linter.all false
set_option maxRecDepth 100000
set_option maxHeartbeats 4000000

namespace RS
open PySem L2
/-! steps by their heads -/
local macro_rules | `(tactic| walk_at "fr") => `(tactic| first
  | assumption
  | exact SqL.of (by assumption)
  | exact SqT.of (by assumption)
  | exact Or.inl (by assumption)
  | exact Or.inr (by assumption)
  | (refine Gr.get (by assumption) ?_ (by walk_at "nin"); walk_at "fr")
  | (refine Gr.tup (by assumption) _ _ ?_; walk_at "fr")
  | (refine SqL.of ?_; walk_at "fr1")
  | (refine SqT.of ?_; walk_at "fr1")
  | (refine Gr.sqL (by assumption) ?_ (by walk_at "nin"); walk_at "fr")
  | (refine Gr.sqT (by assumption) ?_ (by walk_at "nin"); walk_at "fr")
  | (refine Gr.rep0 (by assumption) ?_; walk_at "fr")
  | (refine Gr.reps0 (by assumption) ?_; walk_at "fr"))
local macro_rules | `(tactic| walk_at "fr1") => `(tactic| first
  | assumption
  | (refine Gr.tup (by assumption) _ _ ?_; walk_at "fr1")
  | (refine Gr.get (by assumption) ?_ (by walk_at "nin"); walk_at "fr1"))
local macro_rules | `(tactic| walk_at "nin") => `(tactic| first
  | exact nin_nil
  | assumption
  | (refine nin_one ?_; walk_at "ne"))
local macro_rules | `(tactic| walk_at "ne") => `(tactic| first
  | assumption
  | exact Ne.symm (by assumption)
  | exact ne_new (by assumption) (by assumption)
  | exact Ne.symm (ne_new (by assumption) (by assumption)))
local macro_rules | `(tactic| walk_at "sz") => `(tactic| first
  | assumption
  | exact rfl
  | omega
  | (simp only [List.length_cons, List.length_nil, List.length_append, List.length_map, CDiv, CDivN, CMul]; omega)
  | decide
  | (constructor <;> first | exact rfl | omega | assumption | (simp only [List.length_cons, List.length_nil, List.length_append, List.length_map]; omega) | decide))
local macro_rules | `(tactic| walk_at "i1") => `(tactic| first
  | ((with_reducible refine' isi_L_list ?vh ?_); (case vh => walk_at "fr"))
  | ((with_reducible refine' isi_T_list ?vh ?_); (case vh => walk_at "fr"))
  | ((with_reducible refine' isi_L_tuple ?vh ?_); (case vh => walk_at "fr"))
  | ((with_reducible refine' isi_T_tuple ?vh ?_); (case vh => walk_at "fr"))
  | ((with_reducible refine' isi_L_str ?vh ?_); (case vh => walk_at "fr"))
  | ((with_reducible refine' isi_T_str ?vh ?_); (case vh => walk_at "fr"))
  | ((with_reducible refine' isi_L_int ?vh ?_); (case vh => walk_at "fr"))
  | ((with_reducible refine' isi_T_int ?vh ?_); (case vh => walk_at "fr"))
  | ((with_reducible refine' isi_L_bool ?vh ?_); (case vh => walk_at "fr"))
  | ((with_reducible refine' isi_T_bool ?vh ?_); (case vh => walk_at "fr")))
local macro_rules | `(tactic| walk_at "s") => `(tactic| repeat (first
  | with_reducible refine Stp.h ?_
  | ((with_reducible refine szc ?_ ?_); walk_at "sz")
  | ((with_reducible refine' w_kTyL ?vh ?_); (case vh => walk_at "fr"))
  | ((with_reducible refine' w_lenL ?vh ?_); (case vh => walk_at "fr"))
  | ((with_reducible refine' w_lenT ?vh ?_); (case vh => walk_at "fr"))))
local macro_rules | `(tactic| walk_at "gr") => `(tactic| first
  | exact Gr.refl _ _
  | assumption
  | exact Gr.wide (by assumption)
  | (refine Gr.trans ?_ (by assumption); walk_at "gr")
  | (refine Gr.trans ?_ (Gr.wide (by assumption)); walk_at "gr"))
local macro_rules | `(tactic| walk_at "s2") => `(tactic| (with_reducible refine Stp.h ?_; with_reducible refine Stp.h ?_))

section
variable {P : Program} {w : World} {K : PySem.W.Frag} {mg : Str → Option Value} {base : Heap}
def spSets (K : PySem.W.Frag) : Sp := fun vs H Q _ => ∃ (a : Addr) (rows : List Str), vs = [.ref a] ∧ SqL K H a (rows.map V.str) ∧ rows.length ≤ 1000 ∧ (∀ r ∈ rows, r.length ≤ 1000000) ∧
  ∀ p xs H', Gr [] H H' → H p = none → H' p = some (.lst xs) → TReps H' (settingsIn rows) xs → Q (.ref p) H'
theorem settingsIn_non {r : Str} {rs : List Str} (h : settingIn r = .non) : settingsIn (r :: rs) = [] := by
  show (match settingIn r with | .non => [] | d => d :: settingsIn rs) = _
  rw [h]
theorem settingsIn_tup {r : Str} {rs : List Str} {l : List PD} (h : settingIn r = .tup l) : settingsIn (r :: rs) = .tup l :: settingsIn rs := by
  show (match settingIn r with | .non => [] | d => d :: settingsIn rs) = _
  rw [h]
theorem settingsIn_fix : ∀ (rows : List Str), PD.fixs (settingsIn rows) = true
  | [] => rfl
  | r :: rs => by
    rcases settingIn_ok r with h1 | ⟨s, v, h1, h2⟩
    · rw [settingsIn_non h1]; rfl
    · rw [settingsIn_tup h1]; simp [PD.fixs, PD.fix, h2, settingsIn_fix rs]
theorem sc_settings_in : FnScope ["rows", "found", "row", "setting"] ["rows"] (defScope s_settings_in) := ⟨rfl, rfl, rfl, by decide +kernel, rfl, by decide +kernel, by decide +kernel⟩
theorem ok_settings_in (T : TX K mg) : FnOk P w K mg base CX0 6 T.d_settings_in.a T.d_settings_in.d ["rows"] (spSets K) := by
  refine T.d_settings_in.F.ok sc_settings_in (fun vs H Q E h => ?_) (fun cdv A outer s H vs Q E hr h => ?_)
  · obtain ⟨a, rows, rfl, _⟩ := h; rfl
  obtain ⟨a, rows, rfl, hL, hn, hz, k⟩ := h
  refine ⟨_, (pss_cons (ps_set (i := 1) sc_settings_in.nd rfl (Or.inl rfl) (pe_lst pa_nil))
  (pss_cons (ps_for PassesOwn.never rfl (pi_anyK (K := K) rfl (pv 0)) (pg_name (i := 2) sc_settings_in.nd rfl (Or.inl rfl))
    (pss_cons (ps_set (i := 3) sc_settings_in.nd rfl (Or.inl rfl) (pe_call (ok_setting_in T) (hr.mono (by decide)) (by rfl) T.d_setting_in.g T.d_setting_in.F.kp T.d_setting_in.b .nil pass0 (pa_cons (pv 2) pa_nil)))
  (pss_cons (ps_if (pt_cmp (pc_isN (pv 3)) rfl)
    (pss_one (ps_ret (pv 1)))
    pss_nil)
  (pss_one (ps_expr (pe_bmK (K := K) rfl PySem.F.plainAttrs_list PySem.F.slot_list_append PySem.F.type_list_append mt_append (pv 1) (pa_cons (pv 3) pa_nil)))))))
  (pss_one (ps_ret (pv 1))))), ?_⟩
  refine at_start [some (.ref a), none, none, none] rfl ?_
  walk_at "s"
  refine w_kLst (fun f H1 g1 hf e1 => ?_) (by simp)
  walk_at "s"
  refine w_iL' ?_
  walk_at "s"
  refine w_kIL (g1.sqL hL nin_nil) ?_
  refine for_it (walk_listE (xs := rows.map V.str)) (fun i σ H' => ∃ (xs : List V) (dn : List PD) (v2 v3 : Option V), σ = [some (.ref a), some (.ref f), v2, v3] ∧
    Gr [] H H' ∧ H' f = some (.lst xs) ∧ TReps H' dn xs ∧ dn.length = i ∧ i ≤ rows.length ∧ settingsIn rows = dn ++ settingsIn (rows.drop i) ∧ PD.fixs dn = true) ?_ ?_ ?_ ?_
  · exact ⟨[], [], none, none, rfl, g1, e1, treps_nil, rfl, Nat.zero_le _, rfl, rfl⟩
  · rintro i σ H' hi ⟨xs, dn, v2, v3, rfl, g, _⟩
    exact g.sqL hL nin_nil
  · rintro i x σ H2 H3 hi ⟨xs, dn, v2, v3, rfl, g2, e2, t2, hdn, hle, hgo, hfx⟩ ⟨rfl, hx⟩
    have hlt : i < rows.length := by simpa using hi
    obtain ⟨row, hrow, rfl⟩ : ∃ row, rows[i]? = some row ∧ x = V.str row := by
      simp only [List.getElem?_map, Option.map_eq_some_iff] at hx
      obtain ⟨r, h1, h2⟩ := hx
      exact ⟨r, h1, h2.symm⟩
    have hm : row.length ≤ 1000000 := hz row (List.mem_of_getElem? hrow)
    have hd : rows.drop i = row :: rows.drop (i + 1) := by
      rw [List.drop_eq_getElem_cons hlt]
      exact congrArg (· :: _) (List.getElem?_eq_some_iff.mp hrow).2
    rw [hd] at hgo
    walk_at "s"
    refine one_use (by omega) (fun v H4 g4 t4 => ?_)
    walk_at "s"
    rcases settingIn_ok row with hs | ⟨s, dv, hs, hsf⟩
    · rw [settingsIn_non hs] at hgo
      rw [hs] at t4
      obtain rfl := rep_non' t4
      walk_at "s"
      refine k f xs H4 (g2.trans g4) hf (g4.get0 e2) ?_
      rw [hgo, List.append_nil]
      exact g4.reps0 t2
    · rw [settingsIn_tup hs] at hgo
      rw [hs] at t4
      obtain ⟨b, ys, rfl, eb, ty⟩ := rep_tup' t4
      walk_at "s"
      have hlx := treps_len t2
      refine w_app (g4.get0 e2) (by omega) (fun H5 g5 e5 => ?_)
      walk_at "s"
      refine ⟨xs ++ [.ref b], dn ++ [.tup [.str s, dv]], _, _, rfl, (g2.trans g4).transF g5 hf, e5, ?_, by rw [List.length_append, hdn]; rfl, hlt, ?_, ?_⟩
      · refine treps_append (Gr.reps1 g5 hfx (g4.reps0 t2)) (treps_cons (g5.rep t4 (by simp [PD.fix, PD.fixs, hsf])) treps_nil)
      · rw [hgo, List.append_assoc]; rfl
      · rw [fixs_append, hfx]; simp [PD.fixs, PD.fix, hsf]
  · rintro σ H' ⟨xs, dn, v2, v3, rfl, g2, e2, t2, hdn, hle, hgo, hfx⟩
    walk_at "s"
    refine k f xs H' g2 hf e2 ?_
    have hd : rows.drop (rows.map V.str).length = [] := by simp
    rw [hgo, hd, show settingsIn [] = [] from rfl, List.append_nil]
    exact t2
def nmVs (sets : List PD) : List V := sets.map fun d => V.str (nameOf d)
def pairOk (d : PD) : Prop := ∃ s v, d = .tup [.str s, v]
theorem pair_rep {H : Hp} {s : Str} {d : PD} {v : V} (h : TRep H (.tup [.str s, d]) v) : ∃ t y, v = .ref t ∧ H t = some (.tup [.str s, y]) ∧ TRep H d y := by
  obtain ⟨t, xs, rfl, e, r⟩ := rep_tup' h
  unfold TReps at r
  obtain ⟨x, r1, rfl, h1, r⟩ := r
  unfold TReps at r
  obtain ⟨y, r2, rfl, h2, r⟩ := r
  unfold TReps at r
  subst r
  obtain rfl := rep_str' h1
  exact ⟨t, y, rfl, e, h2⟩
/-- the first cell of a tuple that is there -/
def fstV (H : Hp) : V → V
  | .ref t => (match H t with | some (.tup (x :: _)) => x | _ => .non)
  | _ => .non
theorem fst_names {H : Hp} : ∀ {sets : List PD} {xs : List V}, TReps H sets xs → (∀ d ∈ sets, pairOk d) → xs.map (fstV H) = nmVs sets
  | [], xs, h, _ => by unfold TReps at h; subst h; rfl
  | d :: ds, xs, h, hp => by
    unfold TReps at h
    obtain ⟨x, r, rfl, h1, h2⟩ := h
    obtain ⟨s, v, rfl⟩ := hp d List.mem_cons_self
    obtain ⟨t, y, rfl, e, _⟩ := pair_rep h1
    rw [List.map_cons, fst_names h2 (fun d hd => hp d (List.mem_cons_of_mem _ hd))]
    simp [fstV, e, nmVs, nameOf]
theorem mem_reps {H : Hp} {x : V} : ∀ {ds : List PD} {xs : List V}, TReps H ds xs → x ∈ xs → ∃ d ∈ ds, TRep H d x
  | [], xs, h, hx => by unfold TReps at h; subst h; exact nomatch hx
  | d :: ds, xs, h, hx => by
    unfold TReps at h
    obtain ⟨y, r, rfl, h1, h2⟩ := h
    rcases List.mem_cons.mp hx with rfl | hx
    · exact ⟨d, List.mem_cons_self, h1⟩
    · obtain ⟨e, he, h3⟩ := mem_reps h2 hx
      exact ⟨e, List.mem_cons_of_mem _ he, h3⟩
theorem names_flat (sets : List PD) : (nmVs sets).all flatV = true := by simp [nmVs, flatV]
theorem inV_strs (s : Str) (l : List Str) : inV (.str s) (l.map V.str) = decide (s ∈ l) := by
  induction l with
  | nil => rfl
  | cons a r ih =>
    rw [List.map_cons, inv_cons, ih, eqV_str]
    by_cases h : a = s <;> by_cases h2 : s ∈ r <;> simp [h, h2, eq_comm]
    intro e; exact absurd e.symm h
theorem nmVs_eq (sets : List PD) : nmVs sets = (sets.map nameOf).map V.str := by simp [nmVs, Function.comp_def]
theorem cutV_take (xs : List V) (i : Nat) : cutV xs none (some (i : Int)) = xs.take i := by
  unfold cutV
  have e0 : HT.sIx xs.length xs.length (some (i : Int)) = min i xs.length := HT.sIx_nat xs.length xs.length i
  rw [e0, HT.sIx_none]
  simp only [Nat.sub_zero, List.drop_zero]
  by_cases h : i ≤ xs.length
  · rw [Nat.min_eq_left h]
  · rw [Nat.min_eq_right (by omega), List.take_length, List.take_of_length_le (by omega)]
theorem nodup_take {sets : List PD} {i : Nat} (hnd : (sets.map nameOf).Nodup) (hi : i < sets.length) : ¬ nameOf (sets[i]) ∈ (sets.map nameOf).take i := by
  intro hm
  have hl : i < (sets.map nameOf).length := by simpa using hi
  have e : (sets.map nameOf) = (sets.map nameOf).take i ++ ((sets.map nameOf)[i] :: (sets.map nameOf).drop (i + 1)) := by
    rw [← List.drop_eq_getElem_cons hl, List.take_append_drop]
  rw [e] at hnd
  have := (List.nodup_append.mp hnd).2.2 _ hm _ List.mem_cons_self
  simp at this
theorem cutV_drop (xs : List V) (i : Nat) : cutV xs (some (i : Int)) none = xs.drop i := by
  unfold cutV
  have e0 : HT.sIx xs.length 0 (some (i : Int)) = min i xs.length := HT.sIx_nat xs.length 0 i
  rw [e0, HT.sIx_none]
  by_cases h : i ≤ xs.length
  · rw [Nat.min_eq_left h]
    apply List.take_of_length_le; rw [List.length_drop]; omega
  · rw [List.drop_eq_nil_of_le (show xs.length ≤ i by omega), List.drop_eq_nil_of_le (show xs.length ≤ min i xs.length by omega)]; simp
theorem rowsGo_ok : ∀ {rs : List Str} {m : Int} {l : List (Int × PD)}, rowsGo rs m = some l → ∀ p ∈ l, stepOk p.2
  | [], m, l, h => by simp only [rowsGo, Option.some.injEq] at h; subst h; exact fun p hp => nomatch hp
  | r :: rs, m, l, h => by
    unfold rowsGo at h
    split at h
    · cases h
    rename_i d st hone
    split at h
    · cases h
    rename_i l' hl'
    simp only [Option.some.injEq] at h
    subst h
    intro p hp
    rcases List.mem_cons.mp hp with rfl | hp
    · exact (rowOne_ok hone).2.1
    · exact rowsGo_ok hl' p hp
theorem rowsGo_len : ∀ {rs : List Str} {m : Int} {l : List (Int × PD)}, rowsGo rs m = some l → l.length = rs.length
  | [], m, l, h => by simp only [rowsGo, Option.some.injEq] at h; subst h; rfl
  | r :: rs, m, l, h => by
    unfold rowsGo at h
    split at h
    · cases h
    rename_i d st hone
    split at h
    · cases h
    rename_i l' hl'
    simp only [Option.some.injEq] at h
    subst h
    rw [List.length_cons, List.length_cons, rowsGo_len hl']
theorem settingsIn_pairs : ∀ (rows : List Str), ∀ d ∈ settingsIn rows, pairOk d
  | [], d, h => nomatch h
  | r :: rs, d, h => by
    rcases settingIn_ok r with h1 | ⟨s, v, h1, h2⟩
    · rw [settingsIn_non h1] at h; exact nomatch h
    · rw [settingsIn_tup h1] at h
      rcases List.mem_cons.mp h with rfl | h
      · exact ⟨s, v, rfl⟩
      · exact settingsIn_pairs rs d h
end
end RS
set_option Elab.async false
set_option linter.all false
set_option maxRecDepth 100000
set_option maxHeartbeats 4000000

namespace RS
open PySem L2
/-! steps by their heads -/
local macro_rules | `(tactic| walk_at "fr") => `(tactic| first
  | assumption
  | exact SqL.of (by assumption)
  | exact SqT.of (by assumption)
  | exact Or.inl (by assumption)
  | exact Or.inr (by assumption)
  | (refine Gr.get (by assumption) ?_ (by walk_at "nin"); walk_at "fr")
  | (refine Gr.tup (by assumption) _ _ ?_; walk_at "fr")
  | (refine SqL.of ?_; walk_at "fr1")
  | (refine SqT.of ?_; walk_at "fr1")
  | (refine Gr.sqL (by assumption) ?_ (by walk_at "nin"); walk_at "fr")
  | (refine Gr.sqT (by assumption) ?_ (by walk_at "nin"); walk_at "fr")
  | (refine Gr.rep0 (by assumption) ?_; walk_at "fr")
  | (refine Gr.reps0 (by assumption) ?_; walk_at "fr"))
local macro_rules | `(tactic| walk_at "fr1") => `(tactic| first
  | assumption
  | (refine Gr.tup (by assumption) _ _ ?_; walk_at "fr1")
  | (refine Gr.get (by assumption) ?_ (by walk_at "nin"); walk_at "fr1"))
local macro_rules | `(tactic| walk_at "nin") => `(tactic| first
  | exact nin_nil
  | assumption
  | (refine nin_one ?_; walk_at "ne"))
local macro_rules | `(tactic| walk_at "ne") => `(tactic| first
  | assumption
  | exact Ne.symm (by assumption)
  | exact ne_new (by assumption) (by assumption)
  | exact Ne.symm (ne_new (by assumption) (by assumption)))
local macro_rules | `(tactic| walk_at "sz") => `(tactic| first
  | assumption
  | exact rfl
  | omega
  | (simp only [List.length_cons, List.length_nil, List.length_append, List.length_map, CDiv, CDivN, CMul]; omega)
  | decide
  | (constructor <;> first | exact rfl | omega | assumption | (simp only [List.length_cons, List.length_nil, List.length_append, List.length_map]; omega) | decide))
local macro_rules | `(tactic| walk_at "i1") => `(tactic| first
  | ((with_reducible refine' isi_L_list ?vh ?_); (case vh => walk_at "fr"))
  | ((with_reducible refine' isi_T_list ?vh ?_); (case vh => walk_at "fr"))
  | ((with_reducible refine' isi_L_tuple ?vh ?_); (case vh => walk_at "fr"))
  | ((with_reducible refine' isi_T_tuple ?vh ?_); (case vh => walk_at "fr"))
  | ((with_reducible refine' isi_L_str ?vh ?_); (case vh => walk_at "fr"))
  | ((with_reducible refine' isi_T_str ?vh ?_); (case vh => walk_at "fr"))
  | ((with_reducible refine' isi_L_int ?vh ?_); (case vh => walk_at "fr"))
  | ((with_reducible refine' isi_T_int ?vh ?_); (case vh => walk_at "fr"))
  | ((with_reducible refine' isi_L_bool ?vh ?_); (case vh => walk_at "fr"))
  | ((with_reducible refine' isi_T_bool ?vh ?_); (case vh => walk_at "fr")))
local macro_rules | `(tactic| walk_at "s") => `(tactic| repeat (first
  | with_reducible refine Stp.h ?_
  | ((with_reducible refine szc ?_ ?_); walk_at "sz")
  | ((with_reducible refine' w_kTyL ?vh ?_); (case vh => walk_at "fr"))
  | ((with_reducible refine' w_lenL ?vh ?_); (case vh => walk_at "fr"))
  | ((with_reducible refine' w_lenT ?vh ?_); (case vh => walk_at "fr"))))
local macro_rules | `(tactic| walk_at "gr") => `(tactic| first
  | exact Gr.refl _ _
  | assumption
  | exact Gr.wide (by assumption)
  | (refine Gr.trans ?_ (by assumption); walk_at "gr")
  | (refine Gr.trans ?_ (Gr.wide (by assumption)); walk_at "gr"))
local macro_rules | `(tactic| walk_at "s2") => `(tactic| (with_reducible refine Stp.h ?_; with_reducible refine Stp.h ?_))

section
variable {P : Program} {w : World} {K : PySem.W.Frag} {mg : Str → Option Value} {base : Heap}
/-- the first row that is not so written, or can not stand there -/
def rowsBad : List Str → Int → Option Nat
  | [], _ => none
  | r :: rs, most => match rowOne r most with
    | none => some 0
    | some (d, st) => (rowsBad rs (d + (if inBlocks st then 1 else 0))).map (· + 1)
theorem rowsBad_none : ∀ {rs : List Str} {most : Int}, rowsBad rs most = none → ∃ l, rowsGo rs most = some l
  | [], _, _ => ⟨[], rfl⟩
  | r :: rs, most, h => by
    unfold rowsBad at h
    unfold rowsGo
    split at h
    · cases h
    · rename_i d st hone
      try rw [hone]
      rw [Option.map_eq_none_iff] at h
      obtain ⟨l, hl⟩ := rowsBad_none h
      simp only [hl]
      exact ⟨_, rfl⟩
theorem sc_BadRow___init__ : FnScope ["self", "what"] ["self", "what"] (defScope s_BadRow___init__) := ⟨rfl, rfl, rfl, by decide +kernel, rfl, by decide +kernel, by decide +kernel⟩
theorem ok_BadRow___init__ (T : TX K mg) : FnOk P w K mg base CX0 1 T.e_BadRow.a T.e_BadRow.d ["self", "what"] (spEr T.e_BadRow.C "what") := by
  refine T.e_BadRow.F.ok sc_BadRow___init__ (fun vs H Q E h => ?_) (fun cdv A outer s H vs Q E hr h => ?_)
  · obtain ⟨a, v, rfl, _⟩ := h; rfl
  obtain ⟨a, v, rfl, ha, q⟩ := h
  refine ⟨_, (pss_cons (ps_expr (peK (f := fun K => tVeI K _) (K := K) rfl (pe_cinit (by rfl) T.e_BadRow.g0 T.e_BadRow.hga T.e_BadRow.hmc T.e_BadRow.hr T.e_BadRow.vV (pa_cons (pv 0) (pa_cons pe_str pa_nil))))) (pss_one (psK (f := fun K => tOst K _ _ _) (K := K) rfl (ps_ost (pv 0) (pv 1))))), ?_⟩
  refine at_start [some (.ref a), some v] rfl ?_
  walk_at "s"
  refine w_kVe T.e_BadRow.oex ha (by simp) ?_
  walk_at "s"
  exact w_kOst T.e_BadRow.oex T.e_BadRow.noF ha q
/-- what a refused row leaves: the error's class, its number in its dict -/
def badRow (T : TX K mg) (H0 : Hp) (k : Int) (E : XK) : Prop := ∀ (d : Addr) (H : Hp), Gr [] H0 H → H d = none → E (.ref T.e_BadRow.C) (some d) (upd H d (.xd [("what", .int k)]))
def kMkO (C : Addr) (sp : Sp) (Q : XK) : List V → Hp → Prop := fun vs H1 => vs.length ≤ 1000 ∧ ∀ a, H1 a = none → sp (.ref a :: (vs ++ [])) (upd H1 a (exo a C none))
  (fun v H2 => v = .non ∧ ∃ (d : Addr) (fs : List (Str × V)), H2 a = some (exo a C (some d)) ∧ H2 d = some (exd d fs) ∧ H1 d = none ∧ Q (.ref C) (some d) (upd (del H2 a) d (.xd fs))) (fun _ _ _ => False)
instance {C : Addr} {sp : Sp} {ta : TA} {σ : L2.St} {H : Hp} {Q : XK} : Stp (tMkO C sp [] ta σ H Q) (ta σ H (kMkO C sp Q)) := ⟨id⟩
theorem w_kMkO {C : Addr} {fld : Str} {Q : XK} {v : V} {H : Hp} (q : ∀ d, H d = none → Q (.ref C) (some d) (upd H d (.xd [(fld, v)]))) : kMkO C (spEr C fld) Q [v] H := by
  refine ⟨by simp, fun a ha => ⟨a, v, rfl, upd_same, fun d hd hda => ⟨rfl, d, [(fld, v)], upd_same, ?_, ?_, ?_⟩⟩⟩
  · rw [upd_ne hda, upd_same]
  · rw [upd_ne hda] at hd; exact hd
  · have hd' : H d = none := by rw [upd_ne hda] at hd; exact hd
    have e : upd (del (upd (upd (upd H a (exo a C none)) d (exd d [(fld, v)])) a (exo a C (some d))) a) d (.xd [(fld, v)]) = upd H d (.xd [(fld, v)]) := by
      funext b
      by_cases hb : b = d
      · rw [hb, upd_same, upd_same]
      · rw [upd_ne hb, upd_ne hb]
        by_cases hba : b = a
        · rw [hba, del_same, ha]
        · rw [del_ne hba, upd_ne hba, upd_ne hb, upd_ne hba]
    rw [e]
    exact q d hd'
theorem RSi2 : (Str.ofString "  ").length = 2 := by decide +kernel
def spRowsX (T : TX K mg) : Sp := fun vs H Q E => ∃ (a : Addr) (rows : List Str) (first : Int), vs = [.ref a, .int first] ∧ SqL K H a (rows.map V.str) ∧ rows.length ≤ 1000 ∧ (∀ r ∈ rows, r.length ≤ 1000000) ∧
  (∀ l, rowsGo rows 0 = some l → ∀ v H', Gr [] H H' → TRep H' (.lst (l.map entry)) v → Q v H') ∧ (∀ k : Nat, rowsBad rows 0 = some k → badRow T H (first + k) E)
theorem sc_rows_read : FnScope ["rows", "first", "found", "most", "number", "row", "inner", "step", "blanks", "depth"] ["rows", "first"] (defScope s_rows_read) := ⟨rfl, rfl, rfl, by decide +kernel, rfl, by decide +kernel, by decide +kernel⟩
theorem ok_rows_read (T : TX K mg) : FnOk P w K mg base (L2.CX P w) 7 T.d_rows_read.a T.d_rows_read.d ["rows", "first"] (spRowsX T) := by
  refine T.d_rows_read.F.okX sc_rows_read (fun vs H Q E h => ?_) (fun cdv A outer s H vs Q E hr h => ?_)
  · obtain ⟨a, rows, first, rfl, _⟩ := h; rfl
  obtain ⟨a, rows, first, rfl, hL, hn, hz, kg, kb⟩ := h
  refine ⟨_, (pss_cons (ps_nox (ps_set (i := 2) sc_rows_read.nd rfl (Or.inl rfl) (pe_lst pa_nil)))
  (pss_cons (ps_nox (ps_set (i := 3) sc_rows_read.nd rfl (Or.inl rfl) pe_int))
  (pss_cons (ps_for (passes_of rfl) rfl (piK (f := fun K => iEnum K _) (K := K) rfl (pi_enum (by rfl) T.z_enumerate (pa_cons (PE.nox (pv 0)) pa_nil))) (pg_tupK (K := K) (n := 2) rfl rfl (pgs_cons (pg_name (i := 4) sc_rows_read.nd rfl (Or.inl rfl)) (pgs_cons (pg_name (i := 5) sc_rows_read.nd rfl (Or.inl rfl)) pgs_nil)))
    (pss_cons (ps_nox (ps_set (i := 6) sc_rows_read.nd rfl (Or.inl rfl) (pe_m1 PySem.F.slot_str_lstrip PySem.F.type_str_lstrip mt_lstripA (pv 5) pe_str)))
  (pss_cons (ps_nox (ps_set (i := 7) sc_rows_read.nd rfl (Or.inl rfl) (pe_call (ok_step_in T) (hr.mono (by decide)) (by rfl) T.d_step_in.g T.d_step_in.F.kp T.d_step_in.b .nil pass0 (pa_cons (pv 6) pa_nil))))
  (pss_cons (ps_nox (ps_set (i := 8) sc_rows_read.nd rfl (Or.inl rfl) (pe_op op_sub (pe_callB (call_lenK (K := K) rfl) (by rfl) T.z_len bt_len (pa_cons (pv 5) pa_nil)) (pe_callB (call_lenK (K := K) rfl) (by rfl) T.z_len bt_len (pa_cons (pv 6) pa_nil)))))
  (pss_cons (ps_nox (ps_set (i := 9) sc_rows_read.nd rfl (Or.inl rfl) (pe_op op_fdivA (pv 8) (pe_callB (call_lenK (K := K) rfl) (by rfl) T.z_len bt_len (pa_cons (pe_glob (v := (.str "  ")) (by rfl) T.k_INSET.2 ⟨_, rfl⟩) pa_nil)))))
  (pss_cons (ps_if (PT.nox (PW.pt (pw_or (pt_cmp (pc_isN (pv 7)) rfl) (pw_or (pt_cmpR op_gt (pe_op op_mod (pv 8) (pe_callB (call_lenK (K := K) rfl) (by rfl) T.z_len bt_len (pa_cons (pe_glob (v := (.str "  ")) (by rfl) T.k_INSET.2 ⟨_, rfl⟩) pa_nil))) pe_int (nomark _)) (pw_or1 (pt_cmpR op_gt (pv 9) (pv 3) (nomark _)))))))
    (pss_one (ps_raise rfl (takes_of rfl rfl rfl rfl) (pmk_oex T.e_BadRow.oex T.e_BadRow.iC T.e_BadRow.tI (ok_BadRow___init__ T) (hr.mono (by decide)) T.e_BadRow.b .nil pass0 (by rfl) T.e_BadRow.gC (pa_cons (PE.nox (pe_op (op_addK (K := K) rfl) (pv 1) (pv 4))) pa_nil))))
    pss_nil)
  (pss_cons (ps_nox (ps_set (i := 3) sc_rows_read.nd rfl (Or.inl rfl) (pe_op (op_addK (K := K) rfl) (pv 9) (pe_callTy call_intA (by rfl) T.z_int bt_int (pa_cons (pe_cmpR (op_inK (K := K) rfl) (pe_ix (ix_anyK (K := K) rfl) (pv 7) pe_int (fun _ _ => rfl)) (pe_glob (v := .ref T.k_BLOCKS.1) (by rfl) T.k_BLOCKS.2.1 rfl) (by rfl)) pa_nil)))))
  (pss_one (ps_nox (ps_expr (pe_bmK (K := K) rfl PySem.F.plainAttrs_list PySem.F.slot_list_append PySem.F.type_list_append mt_append (pv 2) (pa_cons (pe_tup (pa_cons (pv 9) (pa_cons (pv 7) pa_nil))) pa_nil))))))))))))
  (pss_one (ps_nox (ps_ret (pv 2))))))), ?_⟩
  refine at_start [some (.ref a), some (.int first), none, none, none, none, none, none, none, none] rfl ?_
  walk_at "s"
  refine w_kLst (fun f H1 g1 hf e1 => ?_) (by simp)
  walk_at "s"
  refine w_kIE (g1.sqL hL nin_nil) ?_
  refine for_it (walk_enum (xs := rows.map V.str)) (fun i σ H' => ∃ (xs : List V) (dn : List (Int × PD)) (most : Int) (v4 v5 v6 v7 v8 v9 : Option V), σ = [some (.ref a), some (.int first), some (.ref f), some (.int most), v4, v5, v6, v7, v8, v9] ∧
    Gr [] H H' ∧ H' f = some (.lst xs) ∧ TReps H' (dn.map entry) xs ∧ dn.length = i ∧ i ≤ rows.length ∧ (∀ rest, rowsGo (rows.drop i) most = some rest → rowsGo rows 0 = some (dn ++ rest)) ∧ (∀ k, rowsBad (rows.drop i) most = some k → rowsBad rows 0 = some (i + k)) ∧ (∀ p ∈ dn, stepOk p.2)) ?_ ?_ ?_ ?_
  · exact ⟨[], [], 0, none, none, none, none, none, none, rfl, g1, e1, treps_nil, rfl, Nat.zero_le _, fun rest h => h, fun k h => by rw [Nat.zero_add]; exact h, fun p hp => nomatch hp⟩
  · rintro i σ H' hi ⟨xs, dn, most, v4, v5, v6, v7, v8, v9, rfl, g, _⟩
    exact g.sqL hL nin_nil
  · rintro i x σ H2 H3 hi ⟨xs, dn, most, v4, v5, v6, v7, v8, v9, rfl, g2, e2, t2, hdn, hle, hgo, hbad, hok⟩ ⟨q, x0, y0, rfl, hq, rfl, hx, hy⟩
    cases hx
    have hlt : i < rows.length := by simpa using hi
    obtain ⟨row, hrow, rfl⟩ : ∃ row, rows[i]? = some row ∧ y0 = V.str row := by
      simp only [List.getElem?_map, Option.map_eq_some_iff] at hy
      obtain ⟨r, h1, h2⟩ := hy
      exact ⟨r, h1, h2.symm⟩
    have hm : row.length ≤ 1000000 := hz row (List.mem_of_getElem? hrow)
    have hd : rows.drop i = row :: rows.drop (i + 1) := by
      rw [List.drop_eq_getElem_cons hlt]
      exact congrArg (· :: _) (List.getElem?_eq_some_iff.mp hrow).2
    rw [hd] at hgo hbad
    have g3 : Gr [] H2 (upd H2 q (.tup [.int (i : Nat), .str row])) := Gr.new hq
    have e3 : (upd H2 q (.tup [.int (i : Nat), .str row])) q = some (.tup [.int (i : Nat), .str row]) := upd_same
    generalize upd H2 q (.tup [.int (i : Nat), .str row]) = H3 at *
    have ll := lstrip_len row " "
    have no : rowOne row most = none → ∀ (d : Addr) (H' : Hp), Gr [] H3 H' → H' d = none → E (.ref T.e_BadRow.C) (some d) (upd H' d (.xd [("what", .int (first + (i : Int)))])) := by
      intro hn1 d H' g' hd'
      have h1 : rowsBad rows 0 = some (i + 0) := hbad 0 (by unfold rowsBad; rw [hn1])
      have h2 := kb _ h1 d H' (g2.trans (g3.trans g')) hd'
      rw [Nat.add_zero] at h2
      exact h2
    refine w_gtup (SqT.of e3) rfl ?_
    walk_at "s"
    refine one_use (by omega) (fun v H4 g4 t4 => ?_)
    walk_at "s"
    rw [RSi2]
    walk_at "s"
    have bl : ∀ (st : PD), stepIn (Txt.lstripChars row " ") = st → st ≠ .non → rowOne row most = if decide (0 < blanksOf row % 2) || decide (most < blanksOf row / 2) then none else some (blanksOf row / 2, st) := by
      intro st hs hne
      unfold rowOne
      rw [hs]
      cases st <;> first | rfl | exact absurd rfl hne
    rcases stepIn_ok (Txt.lstripChars row " ") with hs | hso
    · have hn1 : rowOne row most = none := by unfold rowOne; rw [hs]
      rw [hs] at t4
      obtain rfl := rep_non' t4
      walk_at "s"
      exact w_kMkO fun d hd' => no hn1 d H4 g4 hd'
    · obtain ⟨sfx, s, r, hs, hrl⟩ := id hso
      rw [hs] at t4
      have hb := bl _ hs (fun z => nomatch z)
      obtain ⟨b, ys, rfl, eb, ty⟩ := rep_tup' t4
      have ty' := ty
      unfold TReps at ty'
      obtain ⟨x1, r1, rfl, tx, _⟩ := ty'
      obtain rfl := rep_str' tx
      walk_at "s"
      rw [RSi2]
      have bo : blanksOf row = (row.length : Int) - ((Txt.lstripChars row " ").length : Int) := rfl
      refine iteB (fun c1 => ?_) (fun c1 => ?_)
      · walk_at "s"
        refine w_kMkO fun d hd' => no ?_ d H4 g4 hd'
        rw [hb, bo]
        have c1' : decide (0 < ((row.length : Int) - ((Txt.lstripChars row " ").length : Int)) % 2) = true := c1
        rw [c1', Bool.true_or, if_pos rfl]
      · walk_at "s"
        refine iteB (fun c2 => ?_) (fun c2 => ?_)
        · walk_at "s"
          refine w_kMkO fun d hd' => no ?_ d H4 g4 hd'
          rw [hb, bo]
          have c2' : decide (most < ((row.length : Int) - ((Txt.lstripChars row " ").length : Int)) / 2) = true := c2
          rw [c2', Bool.or_true, if_pos rfl]
        · walk_at "s"
          have hone : rowOne row most = some (blanksOf row / 2, .tup (.str s :: r)) := by
            rw [hb, bo]
            have c1' : decide (0 < ((row.length : Int) - ((Txt.lstripChars row " ").length : Int)) % 2) = false := c1
            have c2' : decide (most < ((row.length : Int) - ((Txt.lstripChars row " ").length : Int)) / 2) = false := c2
            rw [c1', c2']; rfl
          refine w_ixT (SqT.of eb) (atI_zero rfl) ?_
          walk_at "s"
          refine w_inQ (Or.inr (T.k_BLOCKS.2.2 _)) rfl rfl ?_
          walk_at "s"
          refine w_kTup (fun q5 H5 g5 hq5 e5 => ?_) (by simp)
          walk_at "s"
          have e2' : H5 f = some (.lst xs) := g5.get0 (g4.get0 (g3.get0 e2))
          have hlx := treps_len t2
          rw [List.length_map] at hlx
          refine w_app e2' (by omega) (fun H6 g6 e6 => ?_)
          walk_at "s"
          have g25 : Gr [] H2 H5 := g3.trans (g4.trans g5)
          refine ⟨xs ++ [.ref q5], dn ++ [(blanksOf row / 2, .tup (.str s :: r))], _, _, _, _, _, _, _, rfl, (g2.trans g25).transF g6 hf, e6, ?_, by rw [List.length_append, hdn]; rfl, hlt, ?_, ?_, ?_⟩
          · rw [List.map_append]
            refine treps_append ?_ (treps_cons ?_ treps_nil)
            · refine Gr.reps1 g6 ?_ (g25.reps0 t2)
              refine fixs_of fun d hd => ?_
              obtain ⟨p, hp, rfl⟩ := List.mem_map.mp hd
              have := (hok p hp).1
              simp [entry, PD.fix, PD.fixs, this]
            · refine g6.rep ?_ (by have := hso.1; rw [hs] at this; simp only [entry, PD.fix, PD.fixs, Bool.true_and, Bool.and_true] at this ⊢; exact this)
              refine rep_tup e5 (treps_cons (rep_int rfl) (treps_cons (g5.rep0 t4) treps_nil))
          · intro rest hrest
            have h1 : rowsGo (row :: rows.drop (i + 1)) most = some ((blanksOf row / 2, .tup (.str s :: r)) :: rest) := by
              rw [rowsGo, hone]
              have hrest' : rowsGo (rows.drop (i + 1)) (blanksOf row / 2 + if inBlocks (.tup (.str s :: r)) then 1 else 0) = some rest := hrest
              simp only [hrest']
            rw [hgo _ h1, List.append_assoc]; rfl
          · intro k hk
            have h1 : rowsBad (row :: rows.drop (i + 1)) most = some (k + 1) := by
              rw [rowsBad, hone]
              have hk' : rowsBad (rows.drop (i + 1)) (blanksOf row / 2 + if inBlocks (.tup (.str s :: r)) then 1 else 0) = some k := hk
              simp only [hk']; rfl
            rw [hbad _ h1]; congr 1; omega
          · intro p hp
            rcases List.mem_append.mp hp with hp | hp
            · exact hok p hp
            · rcases List.mem_cons.mp hp with rfl | hp
              · have := hso; rw [hs] at this; exact this
              · exact nomatch hp
  · rintro σ H' ⟨xs, dn, most, v4, v5, v6, v7, v8, v9, rfl, g2, e2, t2, hdn, hle, hgo, hbad, hok⟩
    have hd : rows.drop (rows.map V.str).length = [] := by simp
    rw [hd] at hgo
    have h1 := hgo [] rfl
    rw [List.append_nil] at h1
    walk_at "s"
    exact kg dn h1 _ _ g2 (rep_lst e2 t2)
end
end RS
set_option Elab.async false
set_option linter.all false
set_option maxRecDepth 100000
set_option maxHeartbeats 4000000

namespace RS
open PySem L2
/-! steps by their heads -/
local macro_rules | `(tactic| walk_at "fr") => `(tactic| first
  | assumption
  | exact SqL.of (by assumption)
  | exact SqT.of (by assumption)
  | exact Or.inl (by assumption)
  | exact Or.inr (by assumption)
  | (refine Gr.get (by assumption) ?_ (by walk_at "nin"); walk_at "fr")
  | (refine Gr.tup (by assumption) _ _ ?_; walk_at "fr")
  | (refine SqL.of ?_; walk_at "fr1")
  | (refine SqT.of ?_; walk_at "fr1")
  | (refine Gr.sqL (by assumption) ?_ (by walk_at "nin"); walk_at "fr")
  | (refine Gr.sqT (by assumption) ?_ (by walk_at "nin"); walk_at "fr")
  | (refine Gr.rep0 (by assumption) ?_; walk_at "fr")
  | (refine Gr.reps0 (by assumption) ?_; walk_at "fr"))
local macro_rules | `(tactic| walk_at "fr1") => `(tactic| first
  | assumption
  | (refine Gr.tup (by assumption) _ _ ?_; walk_at "fr1")
  | (refine Gr.get (by assumption) ?_ (by walk_at "nin"); walk_at "fr1"))
local macro_rules | `(tactic| walk_at "nin") => `(tactic| first
  | exact nin_nil
  | assumption
  | (refine nin_one ?_; walk_at "ne"))
local macro_rules | `(tactic| walk_at "ne") => `(tactic| first
  | assumption
  | exact Ne.symm (by assumption)
  | exact ne_new (by assumption) (by assumption)
  | exact Ne.symm (ne_new (by assumption) (by assumption)))
local macro_rules | `(tactic| walk_at "sz") => `(tactic| first
  | assumption
  | exact rfl
  | omega
  | (simp only [List.length_cons, List.length_nil, List.length_append, List.length_map, CDiv, CDivN, CMul]; omega)
  | decide
  | (constructor <;> first | exact rfl | omega | assumption | (simp only [List.length_cons, List.length_nil, List.length_append, List.length_map]; omega) | decide))
local macro_rules | `(tactic| walk_at "i1") => `(tactic| first
  | ((with_reducible refine' isi_L_list ?vh ?_); (case vh => walk_at "fr"))
  | ((with_reducible refine' isi_T_list ?vh ?_); (case vh => walk_at "fr"))
  | ((with_reducible refine' isi_L_tuple ?vh ?_); (case vh => walk_at "fr"))
  | ((with_reducible refine' isi_T_tuple ?vh ?_); (case vh => walk_at "fr"))
  | ((with_reducible refine' isi_L_str ?vh ?_); (case vh => walk_at "fr"))
  | ((with_reducible refine' isi_T_str ?vh ?_); (case vh => walk_at "fr"))
  | ((with_reducible refine' isi_L_int ?vh ?_); (case vh => walk_at "fr"))
  | ((with_reducible refine' isi_T_int ?vh ?_); (case vh => walk_at "fr"))
  | ((with_reducible refine' isi_L_bool ?vh ?_); (case vh => walk_at "fr"))
  | ((with_reducible refine' isi_T_bool ?vh ?_); (case vh => walk_at "fr")))
local macro_rules | `(tactic| walk_at "s") => `(tactic| repeat (first
  | with_reducible refine Stp.h ?_
  | ((with_reducible refine szc ?_ ?_); walk_at "sz")
  | ((with_reducible refine' w_kTyL ?vh ?_); (case vh => walk_at "fr"))
  | ((with_reducible refine' w_lenL ?vh ?_); (case vh => walk_at "fr"))
  | ((with_reducible refine' w_lenT ?vh ?_); (case vh => walk_at "fr"))))
local macro_rules | `(tactic| walk_at "gr") => `(tactic| first
  | exact Gr.refl _ _
  | assumption
  | exact Gr.wide (by assumption)
  | (refine Gr.trans ?_ (by assumption); walk_at "gr")
  | (refine Gr.trans ?_ (Gr.wide (by assumption)); walk_at "gr"))
local macro_rules | `(tactic| walk_at "s2") => `(tactic| (with_reducible refine Stp.h ?_; with_reducible refine Stp.h ?_))

section
variable {P : Program} {w : World} {K : PySem.W.Frag} {mg : Str → Option Value} {base : Heap}
def firstIx (p : Nat → Bool) (n : Nat) : Option Nat := (List.range n).find? p
theorem firstIx_some {p : Nat → Bool} {n i : Nat} (hi : i < n) (hp : p i = true) (hb : ∀ j, j < i → p j = false) : firstIx p n = some i := by
  unfold firstIx
  rw [List.find?_range_eq_some]
  exact ⟨hp, List.mem_range.mpr hi, fun j hj => by rw [hb j hj]; rfl⟩
theorem firstIx_none {p : Nat → Bool} {n : Nat} (h : ∀ j, j < n → p j = false) : firstIx p n = none := by
  unfold firstIx
  rw [List.find?_range_eq_none]
  exact fun j hj => by rw [h j hj]; rfl
def againAt (names : List Str) : Option Nat := firstIx (fun i => decide (names.getD i "" ∈ names.take i)) names.length
def strangeAt (names : List Str) (l : List (Int × PD)) : Option Nat := firstIx (fun i => !stepNamed names (l.getD i (0, .non)).2) l.length
def spLookSX (T : TX K mg) : Sp := fun vs H Q E => ∃ (a : Addr) (sets : List PD) (xs : List V), vs = [.ref a] ∧ H a = some (.lst xs) ∧ TReps H sets xs ∧ (∀ d ∈ sets, pairOk d) ∧ sets.length ≤ 1000 ∧
  (againAt (sets.map nameOf) = none → ∀ H', Gr [] H H' → Q .non H') ∧ ∀ k : Nat, againAt (sets.map nameOf) = some k → badRow T H k E
theorem sc_look_settings : FnScope ["settings", "names", "name", "value", "number"] ["settings"] (defScope s_look_settings) := ⟨rfl, rfl, rfl, by decide +kernel, rfl, by decide +kernel, by decide +kernel⟩
theorem ok_look_settings (T : TX K mg) : FnOk P w K mg base (L2.CX P w) 3 T.d_look_settings.a T.d_look_settings.d ["settings"] (spLookSX T) := by
  refine T.d_look_settings.F.okX sc_look_settings (fun vs H Q E h => ?_) (fun cdv A outer s H vs Q E hr h => ?_)
  · obtain ⟨a, rows, xs, rfl, _⟩ := h; rfl
  obtain ⟨a, sets, xs, rfl, hL, tL, hp, hn, kg, kb⟩ := h
  have hlx := treps_len tL
  refine ⟨_, (pss_cons (ps_nox (ps_setLc (i := 1) (own := [("name", 2), ("value", 3)]) rfl sc_look_settings.nd rfl rfl (sw_true rfl rfl rfl (by decide +kernel)) (pi_anyK (K := K) rfl (pv 0)) (blkOk_by (N := ["settings", "names", "name", "value", "number"]) (sc := defScope s_look_settings) (own := [("name", 2), ("value", 3)]) (by decide +kernel)) (fun _ _ _ _ _ => (pg_tupK (K := K) (n := 2) rfl rfl (pgs_cons (pg_name (i := 2) sc_look_settings.nd rfl (Or.inl rfl)) (pgs_cons (pg_name (i := 3) sc_look_settings.nd rfl (Or.inl rfl)) pgs_nil)))) (fun _ _ _ _ _ => pts_nil) (fun _ _ _ _ _ => (pv 2))))
  (pss_one (ps_for (passes_of rfl) rfl (piK (f := fun K => iEnum K _) (K := K) rfl (pi_enum (by rfl) T.z_enumerate (pa_cons (PE.nox (pv 1)) pa_nil))) (pg_tupK (K := K) (n := 2) rfl rfl (pgs_cons (pg_name (i := 4) sc_look_settings.nd rfl (Or.inl rfl)) (pgs_cons (pg_name (i := 2) sc_look_settings.nd rfl (Or.inl rfl)) pgs_nil)))
    (pss_one (ps_if (PT.nox (pt_cmpR (op_inK (K := K) rfl) (pv 2) (pe_slice (sl_anyK (K := K) rfl) (pv 1) po_none (po_some (pv 4))) (by rfl)))
    (pss_one (ps_raise rfl (takes_of rfl rfl rfl rfl) (pmk_oex T.e_BadRow.oex T.e_BadRow.iC T.e_BadRow.tI (ok_BadRow___init__ T) (hr.mono (by decide)) T.e_BadRow.b .nil pass0 (by rfl) T.e_BadRow.gC (pa_cons (PE.nox (pv 4)) pa_nil))))
    pss_nil))))), ?_⟩
  refine at_start [some (.ref a), none, none, none, none] rfl ?_
  walk_at "s"
  refine w_iL' ?_
  walk_at "s"
  refine w_kIL (SqL.of hL) ?_
  refine lc_pure [some (.ref a), none, none, none, none] rfl (walk_listE (xs := xs)) rfl (fun H' g => SqL.of (g.get0 hL)) (fun _ => true) (fstV H) (fun x H3 hx g3 R A kA kR => ?_) (by omega) (fun D H3 g3 hD e3 => ?_)
  · obtain ⟨d, hd, td⟩ := mem_reps tL hx
    obtain ⟨s, v, rfl⟩ := hp d hd
    obtain ⟨t, y, rfl, et, _⟩ := pair_rep td
    refine w_gtup (SqT.of (g3.get0 et)) rfl ?_
    walk_at "s"
    refine ⟨rfl, ?_⟩
    walk_at "s"
    have := kA _ (Gr.refl _ _) rfl
    simpa [fstV, et] using this
  · rw [filter_true, fst_names tL hp] at e3
    walk_at "s"
    refine w_kIE (SqL.of e3) ?_
    refine for_it (walk_enum (xs := nmVs sets)) (fun i σ H' => ∃ (v2 v3 v4 v5 : Option V), σ = [some (.ref a), some (.ref D), v2, v3, v4] ∧ Gr [] H3 H' ∧ ∀ j, j < i → decide ((sets.map nameOf).getD j "" ∈ (sets.map nameOf).take j) = false) ?_ ?_ ?_ ?_
    · exact ⟨_, _, _, none, rfl, Gr.refl _ _, fun j hj => by omega⟩
    · rintro i σ H' hi ⟨v2, v3, v4, v5, rfl, g, _⟩
      exact SqL.of (g.get0 e3)
    · rintro i x σ H4 H5 hi ⟨v2, v3, v4, v5, rfl, g4, hj⟩ ⟨q, x0, y0, rfl, hq, rfl, hx, hy⟩
      cases hx
      have g5 : Gr [] H4 (upd H4 q (.tup [.int (i : Nat), y0])) := Gr.new hq
      have e5 : (upd H4 q (.tup [.int (i : Nat), y0])) q = some (.tup [.int (i : Nat), y0]) := upd_same
      generalize upd H4 q (.tup [.int (i : Nat), y0]) = H5 at *
      refine w_gtup (SqT.of e5) rfl ?_
      walk_at "s"
      refine w_slL (SqL.of (g5.get0 (g4.get0 e3))) (fun p6 H6 g6 hp6 e6 => ?_)
      rw [cutV_take] at e6
      have hlt : i < (sets.map nameOf).length := by simpa [nmVs] using hi
      have hy' : y0 = V.str ((sets.map nameOf).getD i "") := by
        have : (nmVs sets)[i]? = some (V.str ((sets.map nameOf).getD i "")) := by
          rw [nmVs_eq, List.getElem?_map, List.getElem?_eq_getElem hlt, List.getD_eq_getElem?_getD, List.getElem?_eq_getElem hlt]; rfl
        exact (Option.some.inj (this.symm.trans hy)).symm
      subst hy'
      refine w_inQ (Or.inl (SqL.of e6)) rfl (by
        rw [List.all_eq_true]; intro x hx; exact List.all_eq_true.mp (names_flat sets) x (List.mem_of_mem_take hx)) ?_
      rw [nmVs_eq, ← List.map_take, inV_strs]
      walk_at "s"
      refine iteB (fun c => ?_) (fun c => ?_)
      · walk_at "s"
        refine w_kMkO fun d hd' => ?_
        exact kb i (firstIx_some hlt c hj) d H6 (g3.trans (g4.trans (g5.trans g6))) hd'
      · walk_at "s"
        refine ⟨_, _, _, none, rfl, g4.trans (g5.trans g6), fun j hj' => ?_⟩
        rcases Nat.lt_succ_iff_lt_or_eq.mp hj' with h | rfl
        · exact hj j h
        · exact c
    · rintro σ H' ⟨v2, v3, v4, v5, rfl, g, hj⟩
      walk_at "s"
      exact kg (firstIx_none fun j h => hj j (by simpa [nmVs] using h)) _ (g3.trans g)
/-- a step that sets or looks has a text behind its word -/
def stepWide (st : PD) : Prop := ∀ s r, st = .tup (.str s :: r) → inV (.str s) [.str "set", .str "look"] = true → ∃ n r', r = .str n :: r'
def spLookNX (T : TX K mg) : Sp := fun vs H Q E => ∃ (a b : Addr) (first : Int) (sets : List PD) (l : List (Int × PD)) (xs ys : List V), vs = [.ref a, .ref b, .int first] ∧ H a = some (.lst xs) ∧ TReps H sets xs ∧ (∀ d ∈ sets, pairOk d) ∧ sets.length ≤ 1000 ∧
  H b = some (.lst ys) ∧ TReps H (l.map entry) ys ∧ (∀ p ∈ l, stepOk p.2 ∧ stepWide p.2) ∧ (strangeAt (sets.map nameOf) l = none → ∀ H', Gr [] H H' → Q .non H') ∧ ∀ k : Nat, strangeAt (sets.map nameOf) l = some k → badRow T H (first + k) E
theorem sc_look_names : FnScope ["settings", "steps", "first", "names", "name", "value", "number", "depth", "step"] ["settings", "steps", "first"] (defScope s_look_names) := ⟨rfl, rfl, rfl, by decide +kernel, rfl, by decide +kernel, by decide +kernel⟩
theorem ok_look_names (T : TX K mg) : FnOk P w K mg base (L2.CX P w) 3 T.d_look_names.a T.d_look_names.d ["settings", "steps", "first"] (spLookNX T) := by
  refine T.d_look_names.F.okX sc_look_names (fun vs H Q E h => ?_) (fun cdv A outer s H vs Q E hr h => ?_)
  · obtain ⟨a, b, f, sets, l, xs, ys, rfl, _⟩ := h; rfl
  obtain ⟨a, b, first, sets, l, xs, ys, rfl, hL, tL, hp, hn, hb, tb, hso, kg, kb⟩ := h
  have hlx := treps_len tL
  have hly := treps_len tb
  rw [List.length_map] at hly
  refine ⟨_, (pss_cons (ps_nox (ps_setLc (i := 3) (own := [("name", 4), ("value", 5)]) rfl sc_look_names.nd rfl rfl (sw_true rfl rfl rfl (by decide +kernel)) (pi_anyK (K := K) rfl (pv 0)) (blkOk_by (N := ["settings", "steps", "first", "names", "name", "value", "number", "depth", "step"]) (sc := defScope s_look_names) (own := [("name", 4), ("value", 5)]) (by decide +kernel)) (fun _ _ _ _ _ => (pg_tupK (K := K) (n := 2) rfl rfl (pgs_cons (pg_name (i := 4) sc_look_names.nd rfl (Or.inl rfl)) (pgs_cons (pg_name (i := 5) sc_look_names.nd rfl (Or.inl rfl)) pgs_nil)))) (fun _ _ _ _ _ => pts_nil) (fun _ _ _ _ _ => (pv 4))))
  (pss_one (ps_for (passes_of rfl) rfl (piK (f := fun K => iEnum K _) (K := K) rfl (pi_enum (by rfl) T.z_enumerate (pa_cons (PE.nox (pv 1)) pa_nil))) (pg_tupK (K := K) (n := 2) rfl rfl (pgs_cons (pg_name (i := 6) sc_look_names.nd rfl (Or.inl rfl)) (pgs_cons (pg_tupK (K := K) (n := 2) rfl rfl (pgs_cons (pg_name (i := 7) sc_look_names.nd rfl (Or.inl rfl)) (pgs_cons (pg_name (i := 8) sc_look_names.nd rfl (Or.inl rfl)) pgs_nil))) pgs_nil)))
    (pss_one (ps_if (PT.nox (PW.pt (pw_and (pt_cmpR (op_inK (K := K) rfl) (pe_ix (ix_anyK (K := K) rfl) (pv 8) pe_int (fun _ _ => rfl)) (pe_tup (pa_cons pe_str (pa_cons pe_str pa_nil))) (by rfl)) (pw_and1 (pt_cmpR (op_ninK (K := K) rfl) (pe_ix (ix_anyK (K := K) rfl) (pv 8) pe_int (fun _ _ => rfl)) (pv 3) (by rfl))))))
    (pss_one (ps_raise rfl (takes_of rfl rfl rfl rfl) (pmk_oex T.e_BadRow.oex T.e_BadRow.iC T.e_BadRow.tI (ok_BadRow___init__ T) (hr.mono (by decide)) T.e_BadRow.b .nil pass0 (by rfl) T.e_BadRow.gC (pa_cons (PE.nox (pe_op (op_addK (K := K) rfl) (pv 2) (pv 6))) pa_nil))))
    pss_nil))))), ?_⟩
  refine at_start [some (.ref a), some (.ref b), some (.int first), none, none, none, none, none, none] rfl ?_
  walk_at "s"
  refine w_iL' ?_
  walk_at "s"
  refine w_kIL (SqL.of hL) ?_
  refine lc_pure [some (.ref a), some (.ref b), some (.int first), none, none, none, none, none, none] rfl (walk_listE (xs := xs)) rfl (fun H' g => SqL.of (g.get0 hL)) (fun _ => true) (fstV H) (fun x H3 hx g3 R A kA kR => ?_) (by omega) (fun D H3 g3 hD e3 => ?_)
  · obtain ⟨d, hd, td⟩ := mem_reps tL hx
    obtain ⟨s, v, rfl⟩ := hp d hd
    obtain ⟨t, y, rfl, et, _⟩ := pair_rep td
    refine w_gtup (SqT.of (g3.get0 et)) rfl ?_
    walk_at "s"
    refine ⟨rfl, ?_⟩
    walk_at "s"
    have := kA _ (Gr.refl _ _) rfl
    simpa [fstV, et] using this
  · rw [filter_true, fst_names tL hp] at e3
    walk_at "s"
    refine w_kIE (SqL.of (g3.get0 hb)) ?_
    refine for_it (walk_enum (xs := ys)) (fun i σ H' => ∃ (v3 v4 v5 v6 v7 v8 : Option V), σ = [some (.ref a), some (.ref b), some (.int first), some (.ref D), v3, v4, v5, v6, v7] ∧ Gr [] H3 H' ∧ ∀ j, j < i → (!stepNamed (sets.map nameOf) (l.getD j (0, .non)).2) = false) ?_ ?_ ?_ ?_
    · exact ⟨_, _, _, _, _, none, rfl, Gr.refl _ _, fun j hj => by omega⟩
    · rintro i σ H' hi ⟨v3, v4, v5, v6, v7, v8, rfl, g, _⟩
      exact SqL.of (g.get0 (g3.get0 hb))
    · rintro i x σ H4 H5 hi ⟨v3, v4, v5, v6, v7, v8, rfl, g4, hj⟩ ⟨q, x0, y0, rfl, hq, rfl, hx, hy⟩
      cases hx
      have g5 : Gr [] H4 (upd H4 q (.tup [.int (i : Nat), y0])) := Gr.new hq
      have e5 : (upd H4 q (.tup [.int (i : Nat), y0])) q = some (.tup [.int (i : Nat), y0]) := upd_same
      generalize upd H4 q (.tup [.int (i : Nat), y0]) = H5 at *
      refine w_gtup (SqT.of e5) rfl ?_
      walk_at "s"
      obtain ⟨d0, hd0, td0⟩ := treps_get tb hy
      have hlt : i < l.length := by omega
      obtain ⟨p0, hp0, hpi, rfl⟩ : ∃ p0, p0 ∈ l ∧ l.getD i (0, .non) = p0 ∧ entry p0 = d0 := by
        rw [List.getElem?_map, List.getElem?_eq_getElem hlt] at hd0
        injection hd0 with hd0
        exact ⟨l[i], List.getElem_mem _, by rw [List.getD_eq_getElem?_getD, List.getElem?_eq_getElem hlt]; rfl, hd0⟩
      obtain ⟨t, y, rfl, et, ty⟩ := entry_rep td0
      refine w_gtup (SqT.of (g5.get0 (g4.get0 (g3.get0 et)))) rfl ?_
      walk_at "s"
      obtain ⟨⟨_, sn, sr, he, _⟩, hwide⟩ := hso p0 hp0
      rw [he] at ty hwide
      obtain ⟨u, us, rfl, eu, tu⟩ := rep_tup' ty
      have tu' := tu
      unfold TReps at tu'
      obtain ⟨x1, r1, rfl, tx1, tr1⟩ := tu'
      obtain rfl := rep_str' tx1
      have eu5 := g5.get0 (g4.get0 (g3.get0 eu))
      refine w_ixT (SqT.of eu5) (atI_zero rfl) ?_
      walk_at "s"
      refine w_kTup (fun q6 H6 g6 hq6 e6 => ?_) (by simp)
      refine w_inQ (Or.inr (SqT.of e6)) rfl rfl ?_
      walk_at "s"
      have g36 := g4.trans (g5.trans g6)
      have fin : (!stepNamed (sets.map nameOf) p0.2) = false → ∀ v3 v4 v6 v7 H', Gr [] H5 H' → ∃ w3 w4 w5 w6 w7 w8 : Option V, [some (V.ref a), some (.ref b), some (.int first), some (.ref D), v3, v4, some (.int i), v6, v7] = [some (V.ref a), some (.ref b), some (.int first), some (.ref D), w3, w4, w5, w6, w7] ∧ Gr [] H3 H' ∧ ∀ j, j < i + 1 → (!stepNamed (sets.map nameOf) (l.getD j (0, .non)).2) = false :=
        fun h0 v3 v4 v6 v7 H' g => ⟨_, _, _, _, _, none, rfl, g4.trans (g5.trans g), fun j hj' => by
          rcases Nat.lt_succ_iff_lt_or_eq.mp hj' with h | rfl
          · exact hj j h
          · rw [hpi]; exact h0⟩
      refine iteB (fun hb1 => ?_) (fun hb1 => ?_)
      · have hb1' : inV (.str sn) [.str "set", .str "look"] = true := hb1
        obtain ⟨n, sr1, rfl⟩ := hwide sn sr rfl hb1'
        have hsn : stepNamed (sets.map nameOf) p0.2 = inV (.str n) ((sets.map nameOf).map V.str) := by
          rw [he]; unfold stepNamed; simp only []; rw [if_pos hb1']
        unfold TReps at tr1
        obtain ⟨x2, r2, rfl, tx2, _⟩ := tr1
        obtain rfl := rep_str' tx2
        walk_at "s"
        refine w_ixT (SqT.of (g6.get0 eu5)) (show atI _ ((1 : Nat) : Int) = some (V.str n) from atI_nat' rfl) ?_
        walk_at "s"
        refine w_ninQ (Or.inl (SqL.of (g6.get0 (g5.get0 (g4.get0 e3))))) rfl (names_flat sets) ?_
        rw [nmVs_eq, ← hsn]
        walk_at "s"
        refine iteB (fun c => ?_) (fun c => ?_)
        · walk_at "s"
          refine w_kMkO fun d hd' => ?_
          exact kb i (firstIx_some hlt (by rw [hpi]; exact c) hj) d H6 (g3.trans g36) hd'
        · walk_at "s"
          exact fin c _ _ _ _ _ g6
      · have hb1' : inV (.str sn) [.str "set", .str "look"] = false := hb1
        have hsn : (!stepNamed (sets.map nameOf) p0.2) = false := by
          rw [he]; unfold stepNamed; simp only []; rw [if_neg (by rw [hb1']; exact Bool.false_ne_true)]; rfl
        walk_at "s"
        exact fin hsn _ _ _ _ _ g6
    · rintro σ H' ⟨v3, v4, v5, v6, v7, v8, rfl, g, hj⟩
      walk_at "s"
      exact kg (firstIx_none fun j h => hj j (by omega)) _ (g3.trans g)
end
end RS
set_option Elab.async false
set_option linter.all false
set_option maxRecDepth 100000
set_option maxHeartbeats 4000000

namespace RS
open PySem L2
/-! steps by their heads -/
local macro_rules | `(tactic| walk_at "fr") => `(tactic| first
  | assumption
  | exact SqL.of (by assumption)
  | exact SqT.of (by assumption)
  | exact Or.inl (by assumption)
  | exact Or.inr (by assumption)
  | (refine Gr.get (by assumption) ?_ (by walk_at "nin"); walk_at "fr")
  | (refine Gr.tup (by assumption) _ _ ?_; walk_at "fr")
  | (refine SqL.of ?_; walk_at "fr1")
  | (refine SqT.of ?_; walk_at "fr1")
  | (refine Gr.sqL (by assumption) ?_ (by walk_at "nin"); walk_at "fr")
  | (refine Gr.sqT (by assumption) ?_ (by walk_at "nin"); walk_at "fr")
  | (refine Gr.rep0 (by assumption) ?_; walk_at "fr")
  | (refine Gr.reps0 (by assumption) ?_; walk_at "fr"))
local macro_rules | `(tactic| walk_at "fr1") => `(tactic| first
  | assumption
  | (refine Gr.tup (by assumption) _ _ ?_; walk_at "fr1")
  | (refine Gr.get (by assumption) ?_ (by walk_at "nin"); walk_at "fr1"))
local macro_rules | `(tactic| walk_at "nin") => `(tactic| first
  | exact nin_nil
  | assumption
  | (refine nin_one ?_; walk_at "ne"))
local macro_rules | `(tactic| walk_at "ne") => `(tactic| first
  | assumption
  | exact Ne.symm (by assumption)
  | exact ne_new (by assumption) (by assumption)
  | exact Ne.symm (ne_new (by assumption) (by assumption)))
local macro_rules | `(tactic| walk_at "sz") => `(tactic| first
  | assumption
  | exact rfl
  | omega
  | (simp only [List.length_cons, List.length_nil, List.length_append, List.length_map, CDiv, CDivN, CMul]; omega)
  | decide
  | (constructor <;> first | exact rfl | omega | assumption | (simp only [List.length_cons, List.length_nil, List.length_append, List.length_map]; omega) | decide))
local macro_rules | `(tactic| walk_at "i1") => `(tactic| first
  | ((with_reducible refine' isi_L_list ?vh ?_); (case vh => walk_at "fr"))
  | ((with_reducible refine' isi_T_list ?vh ?_); (case vh => walk_at "fr"))
  | ((with_reducible refine' isi_L_tuple ?vh ?_); (case vh => walk_at "fr"))
  | ((with_reducible refine' isi_T_tuple ?vh ?_); (case vh => walk_at "fr"))
  | ((with_reducible refine' isi_L_str ?vh ?_); (case vh => walk_at "fr"))
  | ((with_reducible refine' isi_T_str ?vh ?_); (case vh => walk_at "fr"))
  | ((with_reducible refine' isi_L_int ?vh ?_); (case vh => walk_at "fr"))
  | ((with_reducible refine' isi_T_int ?vh ?_); (case vh => walk_at "fr"))
  | ((with_reducible refine' isi_L_bool ?vh ?_); (case vh => walk_at "fr"))
  | ((with_reducible refine' isi_T_bool ?vh ?_); (case vh => walk_at "fr")))
local macro_rules | `(tactic| walk_at "s") => `(tactic| repeat (first
  | with_reducible refine Stp.h ?_
  | ((with_reducible refine szc ?_ ?_); walk_at "sz")
  | ((with_reducible refine' w_kTyL ?vh ?_); (case vh => walk_at "fr"))
  | ((with_reducible refine' w_lenL ?vh ?_); (case vh => walk_at "fr"))
  | ((with_reducible refine' w_lenT ?vh ?_); (case vh => walk_at "fr"))))
local macro_rules | `(tactic| walk_at "gr") => `(tactic| first
  | exact Gr.refl _ _
  | assumption
  | exact Gr.wide (by assumption)
  | (refine Gr.trans ?_ (by assumption); walk_at "gr")
  | (refine Gr.trans ?_ (Gr.wide (by assumption)); walk_at "gr"))
local macro_rules | `(tactic| walk_at "s2") => `(tactic| (with_reducible refine Stp.h ?_; with_reducible refine Stp.h ?_))

section
variable {P : Program} {w : World} {K : PySem.W.Frag} {mg : Str → Option Value} {base : Heap}
/-- what sheet_from tells of a text: its data, or the row that is refused -/
def sheetX (z : Str) : Except Nat (List PD × List Int × List PD) :=
  let rows := Txt.split z "\n"
  let sets := settingsIn rows
  match rows.drop sets.length with
  | [] => .error sets.length
  | r :: rs => match picksIn r with
    | none => .error sets.length
    | some ps => match rowsGo rs 0 with
      | none => .error (sets.length + 1 + (rowsBad rs 0).getD 0)
      | some l => match againAt (sets.map nameOf) with
        | some k => .error k
        | none => match strangeAt (sets.map nameOf) l with
          | some k => .error (sets.length + 1 + k)
          | none => .ok (sets, ps, (progC l 0).1)
theorem rowsGo_none : ∀ {rs : List Str} {most : Int}, rowsGo rs most = none → ∃ k, rowsBad rs most = some k := by
  intro rs most h
  cases hb : rowsBad rs most with
  | some k => exact ⟨k, rfl⟩
  | none => obtain ⟨l, hl⟩ := rowsBad_none hb; rw [hl] at h; cases h
theorem rowsBad_some : ∀ {rs : List Str} {most : Int} {l : List (Int × PD)}, rowsGo rs most = some l → rowsBad rs most = none
  | [], _, _, _ => rfl
  | r :: rs, most, l, h => by
    unfold rowsGo at h
    unfold rowsBad
    split at h
    · cases h
    · rename_i d st hone
      try rw [hone]
      split at h
      · cases h
      · rename_i l' hl'
        have := rowsBad_some hl'
        simp only [this]; rfl
theorem alone_wide {z : Str} (h : inV (.str z) alone = true) : inV (.str z) [.str "set", .str "look"] = false := by
  have e : alone = (["begin", "late", "pass"] : List Str).map V.str := rfl
  rw [e, inV_strs, decide_eq_true_eq] at h
  simp only [List.mem_cons, List.not_mem_nil, or_false] at h
  rcases h with rfl | rfl | rfl <;> decide +kernel
theorem stepIn_wide (z : Str) : stepWide (stepIn z) := by
  intro s r h hi
  unfold stepIn at h
  simp only [] at h
  split at h
  · unfold setIn at h
    simp only [] at h
    split at h
    · cases h
    · split at h
      · injection h with h; injection h with h1 h2; exact ⟨_, _, h2.symm⟩
      · cases h
  · split at h
    · injection h with h; injection h with h1 h2; exact ⟨_, _, h2.symm⟩
    · split at h
      · rename_i ha
        injection h with h
        injection h with h1 h2
        injection h1 with h1
        subst h1
        rw [alone_wide ha] at hi; cases hi
      · cases h
theorem rowsGo_wide : ∀ {rs : List Str} {m : Int} {l : List (Int × PD)}, rowsGo rs m = some l → ∀ p ∈ l, stepOk p.2 ∧ stepWide p.2
  | [], m, l, h => by simp only [rowsGo, Option.some.injEq] at h; subst h; exact fun p hp => nomatch hp
  | r :: rs, m, l, h => by
    unfold rowsGo at h
    split at h
    · cases h
    rename_i d st hone
    split at h
    · cases h
    rename_i l' hl'
    simp only [Option.some.injEq] at h
    subst h
    intro p hp
    rcases List.mem_cons.mp hp with rfl | hp
    · obtain ⟨h1, h2, _⟩ := rowOne_ok hone
      exact ⟨h2, by rw [← h1]; exact stepIn_wide _⟩
    · exact rowsGo_wide hl' p hp
theorem rowsGo_deep : ∀ {rs : List Str} {m : Int} {l : List (Int × PD)}, rowsGo rs m = some l → ∀ p ∈ l, p.1 < m + (rs.length : Int)
  | [], m, l, h => by simp only [rowsGo, Option.some.injEq] at h; subst h; exact fun p hp => nomatch hp
  | r :: rs, m, l, h => by
    unfold rowsGo at h
    split at h
    · cases h
    rename_i d st hone
    split at h
    · cases h
    rename_i l' hl'
    simp only [Option.some.injEq] at h
    subst h
    obtain ⟨_, _, hde, _, hm⟩ := rowOne_ok hone
    intro p hp
    rw [List.length_cons]
    rcases List.mem_cons.mp hp with rfl | hp
    · show d < m + _; omega
    · have := rowsGo_deep hl' p hp
      split at this <;> omega
theorem settingsIn_len : ∀ (rows : List Str), (settingsIn rows).length ≤ rows.length
  | [] => Nat.le_refl _
  | r :: rs => by
    rcases settingIn_ok r with h1 | ⟨s, v, h1, h2⟩
    · rw [settingsIn_non h1]; simp
    · rw [settingsIn_tup h1]; have := settingsIn_len rs; simp only [List.length_cons]; omega
def spSheetX (T : TX K mg) : Sp := fun vs H Q E => ∃ (z : Str), vs = [.str z] ∧ z.length ≤ 1000000 ∧ (Txt.split z "\n").length ≤ 40 ∧
  (∀ sets ps prog, sheetX z = .ok (sets, ps, prog) → ∀ t s p y H', Gr [] H H' → H' t = some (.tup [.ref s, .ref p, y]) → H s = none → H p = none → s ≠ p → TRep H' (.lst sets) (.ref s) → H' p = some (.lst (ps.map V.int)) → TRep H' (.tup prog) y → Q (.ref t) H') ∧
  ∀ k : Nat, sheetX z = .error k → badRow T H k E
theorem sc_sheet_from : FnScope ["text", "rows", "settings", "first", "steps"] ["text"] (defScope s_sheet_from) := ⟨rfl, rfl, rfl, by decide +kernel, rfl, by decide +kernel, by decide +kernel⟩
theorem ok_sheet_from (T : TX K mg) : FnOk P w K mg base (L2.CX P w) 42 T.d_sheet_from.a T.d_sheet_from.d ["text"] (spSheetX T) := by
  refine T.d_sheet_from.F.okX sc_sheet_from (fun vs H Q E h => ?_) (fun cdv A outer s H vs Q E hr h => ?_)
  · obtain ⟨z, rfl, _⟩ := h; rfl
  obtain ⟨z, rfl, hz, hm, kg, kb⟩ := h
  obtain ⟨sne, sl, sm⟩ := split_line z
  refine ⟨_, (pss_cons (ps_nox (ps_set (i := 1) sc_sheet_from.nd rfl (Or.inl rfl) (pe_m1 PySem.F.slot_str_split PySem.F.type_str_split mt_splitA (pv 0) pe_str)))
  (pss_cons (ps_nox (ps_set (i := 2) sc_sheet_from.nd rfl (Or.inl rfl) (pe_call (ok_settings_in T) (hr.mono (by decide)) (by rfl) T.d_settings_in.g T.d_settings_in.F.kp T.d_settings_in.b .nil pass0 (pa_cons (pv 1) pa_nil))))
  (pss_cons (ps_nox (ps_set (i := 3) sc_sheet_from.nd rfl (Or.inl rfl) (pe_callB (call_lenK (K := K) rfl) (by rfl) T.z_len bt_len (pa_cons (pv 2) pa_nil))))
  (pss_cons (ps_if (PT.nox (PW.pt (pw_or (pt_cmpR (op_eqK (K := K) rfl (hu64 hr)) (pv 3) (pe_callB (call_lenK (K := K) rfl) (by rfl) T.z_len bt_len (pa_cons (pv 1) pa_nil)) (nomark _)) (pw_or1 (pt_cmp (pc_isN (pe_call (ok_picks_in T) (hr.mono (by decide)) (by rfl) T.d_picks_in.g T.d_picks_in.F.kp T.d_picks_in.b .nil pass0 (pa_cons (pe_ix (ix_anyK (K := K) rfl) (pv 1) (pv 3) (fun _ _ => rfl)) pa_nil))) rfl)))))
    (pss_one (ps_raise rfl (takes_of rfl rfl rfl rfl) (pmk_oex T.e_BadRow.oex T.e_BadRow.iC T.e_BadRow.tI (ok_BadRow___init__ T) (hr.mono (by decide)) T.e_BadRow.b .nil pass0 (by rfl) T.e_BadRow.gC (pa_cons (PE.nox (pv 3)) pa_nil))))
    pss_nil)
  (pss_cons (ps_set (i := 4) sc_sheet_from.nd rfl (Or.inl rfl) (pe_call (ok_rows_read T) (hr.mono (by decide)) (by rfl) T.d_rows_read.g T.d_rows_read.F.kp T.d_rows_read.b .nil (passes_call (E := E) (takes_of rfl rfl rfl rfl) (fun _ _ _ _ h => h)) (pa_cons (PE.nox (pe_slice (sl_anyK (K := K) rfl) (pv 1) (po_some (pe_op (op_addK (K := K) rfl) (pv 3) pe_int)) po_none)) (pa_cons (PE.nox (pe_op (op_addK (K := K) rfl) (pv 3) pe_int)) pa_nil))))
  (pss_cons (ps_expr (pe_call (ok_look_settings T) (hr.mono (by decide)) (by rfl) T.d_look_settings.g T.d_look_settings.F.kp T.d_look_settings.b .nil (passes_call (E := E) (takes_of rfl rfl rfl rfl) (fun _ _ _ _ h => h)) (pa_cons (PE.nox (pv 2)) pa_nil)))
  (pss_cons (ps_expr (pe_call (ok_look_names T) (hr.mono (by decide)) (by rfl) T.d_look_names.g T.d_look_names.F.kp T.d_look_names.b .nil (passes_call (E := E) (takes_of rfl rfl rfl rfl) (fun _ _ _ _ h => h)) (pa_cons (PE.nox (pv 2)) (pa_cons (PE.nox (pv 4)) (pa_cons (PE.nox (pe_op (op_addK (K := K) rfl) (pv 3) pe_int)) pa_nil)))))
  (pss_one (ps_nox (ps_ret (pe_tup (pa_cons (pv 2) (pa_cons (pe_call (ok_picks_in T) (hr.mono (by decide)) (by rfl) T.d_picks_in.g T.d_picks_in.F.kp T.d_picks_in.b .nil pass0 (pa_cons (pe_ix (ix_anyK (K := K) rfl) (pv 1) (pv 3) (fun _ _ => rfl)) pa_nil)) (pa_cons (pe_ix (ix_anyK (K := K) rfl) (pe_call (ok_program_at T 40) (hr.mono (by decide)) (by rfl) T.d_program_at.g T.d_program_at.F.kp T.d_program_at.b .nil pass0 (pa_cons (pv 4) (pa_cons pe_int (pa_cons pe_int pa_nil)))) pe_int (fun _ _ => rfl)) pa_nil)))))))))))))), ?_⟩
  refine at_start [some (.str z), none, none, none, none] rfl ?_
  walk_at "s"
  refine w_split (by decide +kernel) (by omega) (fun p1 H1 g1 hp1 e1 => ?_)
  have un : sheetX z = match (Txt.split z "\n").drop (settingsIn (Txt.split z "\n")).length with
    | [] => .error (settingsIn (Txt.split z "\n")).length
    | r :: rs => match picksIn r with
      | none => .error (settingsIn (Txt.split z "\n")).length
      | some ps => match rowsGo rs 0 with
        | none => .error ((settingsIn (Txt.split z "\n")).length + 1 + (rowsBad rs 0).getD 0)
        | some l => match againAt ((settingsIn (Txt.split z "\n")).map nameOf) with
          | some k => .error k
          | none => match strangeAt ((settingsIn (Txt.split z "\n")).map nameOf) l with
            | some k => .error ((settingsIn (Txt.split z "\n")).length + 1 + k)
            | none => .ok (settingsIn (Txt.split z "\n"), ps, (progC l 0).1) := rfl
  generalize Txt.split z "\n" = rows at *
  generalize hset : settingsIn rows = sets at *
  have hpo : ∀ d ∈ sets, pairOk d := by rw [← hset]; exact settingsIn_pairs rows
  have hslen : sets.length ≤ rows.length := by rw [← hset]; exact settingsIn_len rows
  walk_at "s"
  refine ⟨p1, rows, rfl, SqL.of e1, by omega, fun q hq => Nat.le_trans (sl q hq) hz, fun p2 xs H2 g2 hp2 e2 t2 => ?_⟩
  rw [hset] at t2
  have hxl := treps_len t2
  walk_at "s"
  refine w_lenL (SqL.of (g2.get0 e1)) ?_
  walk_at "s"
  cases hdrop : rows.drop sets.length with
  | nil =>
    have hle : rows.length ≤ sets.length := List.drop_eq_nil_iff.mp hdrop
    rw [hdrop] at un
    rw [decide_eq_true (show V.int ((xs.length : Nat) : Int) = V.int (((rows.map V.str).length : Nat) : Int) by rw [List.length_map]; congr 1; omega)]
    walk_at "s"
    refine w_kMkO fun d hd' => ?_
    rw [hxl]
    exact kb _ un d H2 (g1.trans g2) hd'
  | cons r rs =>
    rw [hdrop] at un
    simp only [] at un
    have hsl : sets.length < rows.length := by
      have := congrArg List.length hdrop
      rw [List.length_drop, List.length_cons] at this; omega
    have hrow : rows[sets.length]? = some r := by
      have := congrArg (fun q => q[0]?) hdrop
      simpa using this
    have hrl : r.length ≤ 1000000 := Nat.le_trans (sl r (List.mem_of_getElem? hrow)) hz
    have hrs : rs = rows.drop (sets.length + 1) := by
      have := congrArg (List.drop 1) hdrop
      rw [List.drop_drop] at this; simpa using this.symm
    rw [decide_eq_false (show ¬ (V.int ((xs.length : Nat) : Int) = V.int (((rows.map V.str).length : Nat) : Int)) from fun h => by injection h with h; rw [List.length_map] at h; omega)]
    walk_at "s"
    have hix : ∀ H', SqL K H' p1 (rows.map V.str) → ∀ (Q : VK), Q (.str r) H' → rIxA K (.ref p1) (.int (xs.length : Int)) H' Q := fun H' h Q q => w_ixL h (by rw [hxl]; exact atI_nat' (by rw [List.getElem?_map, hrow]; rfl)) q
    refine hix _ (SqL.of (g2.get0 e1)) _ ?_
    walk_at "s"
    refine ⟨r, rfl, hrl, fun v3 H3 g3 m3 => ?_⟩
    cases hpk : picksIn r with
    | none =>
      rw [hpk] at m3 un
      simp only [] at m3 un
      subst m3
      rw [decide_eq_true rfl]
      walk_at "s"
      refine w_kMkO fun d hd' => ?_
      rw [hxl]
      exact kb _ un d H3 (g1.trans (g2.trans g3)) hd'
    | some ps =>
      rw [hpk] at m3 un
      simp only [] at m3 un
      obtain ⟨p3, rfl, hp3, e3⟩ := m3
      walk_at "s"
      refine w_slL (SqL.of (g3.get0 (g2.get0 e1))) (fun p4 H4 g4 hp4 e4 => ?_)
      rw [show ((xs.length : Nat) : Int) + 1 = ((sets.length + 1 : Nat) : Int) by omega, cutV_drop, ← List.map_drop, ← hrs] at e4
      walk_at "s"
      have hrs40 : rs.length ≤ 38 ∨ rs.length ≤ 39 := by right; rw [hrs, List.length_drop]; omega
      refine ⟨p4, rs, _, rfl, SqL.of e4, by omega, fun q hq => Nat.le_trans (sl q (by rw [hrs] at hq; exact List.mem_of_mem_drop hq)) hz, fun l hgo v5 H5 g5 t5 => ?_, fun k hk => ?_⟩
      · rw [hgo] at un
        simp only [] at un
        obtain ⟨p5, ys, rfl, e5, ty5⟩ := rep_lst' t5
        walk_at "s"
        have g25 : Gr [] H2 H5 := (g3.trans g4).trans g5
        refine ⟨p2, sets, xs, rfl, g25.get0 e2, g25.reps0 t2, hpo, by omega, fun hag H6 g6 => ?_, fun k hk d H' g' hd' => ?_⟩
        · rw [hag] at un
          simp only [] at un
          walk_at "s"
          have g26 := g25.trans g6
          refine ⟨p2, p5, _, sets, l, xs, ys, rfl, g26.get0 e2, g26.reps0 t2, hpo, by omega, g6.get0 e5, g6.reps0 ty5, rowsGo_wide hgo, fun hst H7 g7 => ?_, fun k hk d H' g' hd' => ?_⟩
          · rw [hst] at un
            simp only [] at un
            have g27 := g26.trans g7
            have g57 := g6.trans g7
            walk_at "s"
            refine hix _ (SqL.of (g27.get0 (g2.get0 e1))) _ ?_
            walk_at "s"
            refine ⟨r, rfl, hrl, fun v8 H8 g8 m8 => ?_⟩
            rw [hpk] at m8
            simp only [] at m8
            obtain ⟨p8, rfl, hp8, e8⟩ := m8
            walk_at "s"
            refine ⟨p5, l, 0, 0, rfl, g8.rep0 (g57.rep0 t5), (by have := rowsGo_len hgo; omega), Nat.zero_le _, fun p hp => ⟨(rowsGo_wide hgo p hp).1, by have := rowsGo_deep hgo p hp; omega⟩, fun v9 H9 g9 t9 => ?_⟩
            obtain ⟨p9, us, rfl, e9, tu⟩ := rep_tup' t9
            unfold TReps at tu
            obtain ⟨u1, us1, rfl, tu1, _⟩ := tu
            refine w_ixT (SqT.of e9) (atI_zero rfl) ?_
            walk_at "s"
            refine w_kTup (fun p10 H10 g10 hp10 e10 => ?_) (by simp)
            have g210 : Gr [] H2 H10 := g27.trans (g8.trans (g9.trans g10))
            rw [List.drop_zero] at tu1
            refine kg sets ps _ un p10 p2 p8 u1 H10 (g1.trans (g2.trans g210)) e10 (g1.free hp2) ((g1.trans (g2.trans g27)).free hp8) ?_ (rep_lst (g210.get0 e2) (g210.reps0 t2)) (g10.get0 (g9.get0 e8)) (g10.rep0 tu1)
            exact ne_new (g27.get0 e2) hp8
          · rw [hk] at un
            simp only [] at un
            have := kb _ un d H' (g1.trans (g2.trans (g26.trans g'))) hd'
            rw [show ((sets.length + 1 + k : Nat) : Int) = (xs.length : Int) + 1 + (k : Int) by omega] at this
            exact this
        · rw [hk] at un
          simp only [] at un
          exact kb _ un d H' (g1.trans (g2.trans (g25.trans g'))) hd'
      · have hno : rowsGo rs 0 = none := by
          cases hg : rowsGo rs 0 with
          | none => rfl
          | some l => rw [rowsBad_some hg] at hk; cases hk
        rw [hno, hk] at un
        simp only [Option.getD_some] at un
        intro d H' g' hd'
        have := kb _ un d H' (g1.trans (g2.trans (g3.trans (g4.trans g')))) hd'
        rw [show ((sets.length + 1 + k : Nat) : Int) = ((sets.length + 1 : Nat) : Int) + (k : Int) by omega] at this
        first
          | exact this
          | (rw [show ((xs.length : Nat) : Int) + 1 = ((sets.length + 1 : Nat) : Int) by omega]; exact this)
end
end RS
set_option Elab.async false
set_option linter.all false
set_option maxRecDepth 100000
set_option maxHeartbeats 4000000

namespace RS
open PySem L2
/-! steps by their heads -/
local macro_rules | `(tactic| walk_at "fr") => `(tactic| first
  | assumption
  | exact SqL.of (by assumption)
  | exact SqT.of (by assumption)
  | exact Or.inl (by assumption)
  | exact Or.inr (by assumption)
  | (refine Gr.get (by assumption) ?_ (by walk_at "nin"); walk_at "fr")
  | (refine Gr.tup (by assumption) _ _ ?_; walk_at "fr")
  | (refine SqL.of ?_; walk_at "fr1")
  | (refine SqT.of ?_; walk_at "fr1")
  | (refine Gr.sqL (by assumption) ?_ (by walk_at "nin"); walk_at "fr")
  | (refine Gr.sqT (by assumption) ?_ (by walk_at "nin"); walk_at "fr")
  | (refine Gr.rep0 (by assumption) ?_; walk_at "fr")
  | (refine Gr.reps0 (by assumption) ?_; walk_at "fr"))
local macro_rules | `(tactic| walk_at "fr1") => `(tactic| first
  | assumption
  | (refine Gr.tup (by assumption) _ _ ?_; walk_at "fr1")
  | (refine Gr.get (by assumption) ?_ (by walk_at "nin"); walk_at "fr1"))
local macro_rules | `(tactic| walk_at "nin") => `(tactic| first
  | exact nin_nil
  | assumption
  | (refine nin_one ?_; walk_at "ne"))
local macro_rules | `(tactic| walk_at "ne") => `(tactic| first
  | assumption
  | exact Ne.symm (by assumption)
  | exact ne_new (by assumption) (by assumption)
  | exact Ne.symm (ne_new (by assumption) (by assumption)))
local macro_rules | `(tactic| walk_at "sz") => `(tactic| first
  | assumption
  | exact rfl
  | omega
  | (simp only [List.length_cons, List.length_nil, List.length_append, List.length_map, CDiv, CDivN, CMul]; omega)
  | decide
  | (constructor <;> first | exact rfl | omega | assumption | (simp only [List.length_cons, List.length_nil, List.length_append, List.length_map]; omega) | decide))
local macro_rules | `(tactic| walk_at "i1") => `(tactic| first
  | ((with_reducible refine' isi_L_list ?vh ?_); (case vh => walk_at "fr"))
  | ((with_reducible refine' isi_T_list ?vh ?_); (case vh => walk_at "fr"))
  | ((with_reducible refine' isi_L_tuple ?vh ?_); (case vh => walk_at "fr"))
  | ((with_reducible refine' isi_T_tuple ?vh ?_); (case vh => walk_at "fr"))
  | ((with_reducible refine' isi_L_str ?vh ?_); (case vh => walk_at "fr"))
  | ((with_reducible refine' isi_T_str ?vh ?_); (case vh => walk_at "fr"))
  | ((with_reducible refine' isi_L_int ?vh ?_); (case vh => walk_at "fr"))
  | ((with_reducible refine' isi_T_int ?vh ?_); (case vh => walk_at "fr"))
  | ((with_reducible refine' isi_L_bool ?vh ?_); (case vh => walk_at "fr"))
  | ((with_reducible refine' isi_T_bool ?vh ?_); (case vh => walk_at "fr")))
local macro_rules | `(tactic| walk_at "s") => `(tactic| repeat (first
  | with_reducible refine Stp.h ?_
  | ((with_reducible refine szc ?_ ?_); walk_at "sz")
  | ((with_reducible refine' w_kTyL ?vh ?_); (case vh => walk_at "fr"))
  | ((with_reducible refine' w_lenL ?vh ?_); (case vh => walk_at "fr"))
  | ((with_reducible refine' w_lenT ?vh ?_); (case vh => walk_at "fr"))))
local macro_rules | `(tactic| walk_at "gr") => `(tactic| first
  | exact Gr.refl _ _
  | assumption
  | exact Gr.wide (by assumption)
  | (refine Gr.trans ?_ (by assumption); walk_at "gr")
  | (refine Gr.trans ?_ (Gr.wide (by assumption)); walk_at "gr"))
local macro_rules | `(tactic| walk_at "s2") => `(tactic| (with_reducible refine Stp.h ?_; with_reducible refine Stp.h ?_))

section
variable {P : Program} {w : World} {K : PySem.W.Frag} {mg : Str → Option Value} {base : Heap}
/-- a text that is refused -/
def spRef (T : TX K mg) : Sp := fun vs H _ E => ∃ (z : Str) (k : Nat), vs = [.str z] ∧ z.length ≤ 1000000 ∧ (Txt.split z "\n").length ≤ 40 ∧ sheetX z = .error k ∧ badRow T H k E
theorem sc_sheet_woven : FnScope ["text", "settings", "picks", "program"] ["text"] (defScope s_sheet_woven) := ⟨rfl, rfl, rfl, by decide +kernel, rfl, by decide +kernel, by decide +kernel⟩
theorem ok_sheet_woven (T : TX K mg) : FnOk P w K mg base (L2.CX P w) 43 T.d_sheet_woven.a T.d_sheet_woven.d ["text"] (spRef T) := by
  refine T.d_sheet_woven.F.okX sc_sheet_woven (fun vs H Q E h => ?_) (fun cdv A outer s H vs Q E hr h => ?_)
  · obtain ⟨z, k, rfl, _⟩ := h; rfl
  obtain ⟨z, k, rfl, hz, hm, hk, kb⟩ := h
  refine ⟨_, (pss_cons (ps_asg (pe_call (E := E) (ok_sheet_from T) (hr.mono (by decide)) (by rfl) T.d_sheet_from.g T.d_sheet_from.F.kp T.d_sheet_from.b .nil (passes_call (takes_of rfl rfl rfl rfl) (fun _ _ _ _ h => h)) (pa_cons (PE.nox (pv 0)) pa_nil))
    (pg_tupK (K := K) (n := 3) rfl rfl (pgs_cons (pg_name (i := 1) sc_sheet_woven.nd rfl (Or.inl rfl)) (pgs_cons (pg_name (i := 2) sc_sheet_woven.nd rfl (Or.inl rfl)) (pgs_cons (pg_name (i := 3) sc_sheet_woven.nd rfl (Or.inl rfl)) pgs_nil))))) pss_never), ?_⟩
  refine at_start [some (.str z), none, none, none] rfl ?_
  walk_at "s"
  refine ⟨z, rfl, hz, hm, fun sets ps prog h => ?_, fun k' hk' => ?_⟩
  · rw [hk] at h; cases h
  · rw [hk] at hk'; injection hk' with hk'; subst hk'; exact kb
theorem sc_answers : FnScope ["text", "notes", "turns", "rows", "path", "told", "number", "note"] ["text"] (defScope s_answers) := ⟨rfl, rfl, rfl, by decide +kernel, rfl, by decide +kernel, by decide +kernel⟩
theorem ok_answers (T : TX K mg) : FnOk P w K mg base (L2.CX P w) 44 T.d_answers.a T.d_answers.d ["text"] (spRef T) := by
  refine T.d_answers.F.okX sc_answers (fun vs H Q E h => ?_) (fun cdv A outer s H vs Q E hr h => ?_)
  · obtain ⟨z, k, rfl, _⟩ := h; rfl
  obtain ⟨z, k, rfl, hz, hm, hk, kb⟩ := h
  refine ⟨_, (pss_cons (ps_asg (pe_call (E := E) (ok_sheet_woven T) (hr.mono (by decide)) (by rfl) T.d_sheet_woven.g T.d_sheet_woven.F.kp T.d_sheet_woven.b .nil (passes_call (takes_of rfl rfl rfl rfl) (fun _ _ _ _ h => h)) (pa_cons (PE.nox (pv 0)) pa_nil))
    (pg_tupK (K := K) (n := 2) rfl rfl (pgs_cons (pg_name (i := 1) sc_answers.nd rfl (Or.inl rfl)) (pgs_cons (pg_name (i := 2) sc_answers.nd rfl (Or.inl rfl)) pgs_nil)))) pss_never), ?_⟩
  refine at_start [some (.str z), none, none, none, none, none, none, none] rfl ?_
  walk_at "s"
  exact ⟨z, k, rfl, hz, hm, hk, kb⟩
theorem sc_turns_text : FnScope ["text", "notes", "turns", "path"] ["text"] (defScope s_turns_text) := ⟨rfl, rfl, rfl, by decide +kernel, rfl, by decide +kernel, by decide +kernel⟩
theorem ok_turns_text (T : TX K mg) : FnOk P w K mg base (L2.CX P w) 44 T.d_turns_text.a T.d_turns_text.d ["text"] (spRef T) := by
  refine T.d_turns_text.F.okX sc_turns_text (fun vs H Q E h => ?_) (fun cdv A outer s H vs Q E hr h => ?_)
  · obtain ⟨z, k, rfl, _⟩ := h; rfl
  obtain ⟨z, k, rfl, hz, hm, hk, kb⟩ := h
  refine ⟨_, (pss_cons (ps_asg (pe_call (E := E) (ok_sheet_woven T) (hr.mono (by decide)) (by rfl) T.d_sheet_woven.g T.d_sheet_woven.F.kp T.d_sheet_woven.b .nil (passes_call (takes_of rfl rfl rfl rfl) (fun _ _ _ _ h => h)) (pa_cons (PE.nox (pv 0)) pa_nil))
    (pg_tupK (K := K) (n := 2) rfl rfl (pgs_cons (pg_name (i := 1) sc_turns_text.nd rfl (Or.inl rfl)) (pgs_cons (pg_name (i := 2) sc_turns_text.nd rfl (Or.inl rfl)) pgs_nil)))) pss_never), ?_⟩
  refine at_start [some (.str z), none, none, none] rfl ?_
  walk_at "s"
  exact ⟨z, k, rfl, hz, hm, hk, kb⟩
end
end RS
set_option Elab.async false
set_option linter.all false
set_option maxRecDepth 100000
set_option maxHeartbeats 4000000

namespace RS
open PySem L2
/-! steps by their heads -/
local macro_rules | `(tactic| walk_at "fr") => `(tactic| first
  | assumption
  | exact SqL.of (by assumption)
  | exact SqT.of (by assumption)
  | exact Or.inl (by assumption)
  | exact Or.inr (by assumption)
  | (refine Gr.get (by assumption) ?_ (by walk_at "nin"); walk_at "fr")
  | (refine Gr.tup (by assumption) _ _ ?_; walk_at "fr")
  | (refine SqL.of ?_; walk_at "fr1")
  | (refine SqT.of ?_; walk_at "fr1")
  | (refine Gr.sqL (by assumption) ?_ (by walk_at "nin"); walk_at "fr")
  | (refine Gr.sqT (by assumption) ?_ (by walk_at "nin"); walk_at "fr")
  | (refine Gr.rep0 (by assumption) ?_; walk_at "fr")
  | (refine Gr.reps0 (by assumption) ?_; walk_at "fr"))
local macro_rules | `(tactic| walk_at "fr1") => `(tactic| first
  | assumption
  | (refine Gr.tup (by assumption) _ _ ?_; walk_at "fr1")
  | (refine Gr.get (by assumption) ?_ (by walk_at "nin"); walk_at "fr1"))
local macro_rules | `(tactic| walk_at "nin") => `(tactic| first
  | exact nin_nil
  | assumption
  | (refine nin_one ?_; walk_at "ne"))
local macro_rules | `(tactic| walk_at "ne") => `(tactic| first
  | assumption
  | exact Ne.symm (by assumption)
  | exact ne_new (by assumption) (by assumption)
  | exact Ne.symm (ne_new (by assumption) (by assumption)))
local macro_rules | `(tactic| walk_at "sz") => `(tactic| first
  | assumption
  | exact rfl
  | omega
  | (simp only [List.length_cons, List.length_nil, List.length_append, List.length_map, CDiv, CDivN, CMul]; omega)
  | decide
  | (constructor <;> first | exact rfl | omega | assumption | (simp only [List.length_cons, List.length_nil, List.length_append, List.length_map]; omega) | decide))
local macro_rules | `(tactic| walk_at "i1") => `(tactic| first
  | ((with_reducible refine' isi_L_list ?vh ?_); (case vh => walk_at "fr"))
  | ((with_reducible refine' isi_T_list ?vh ?_); (case vh => walk_at "fr"))
  | ((with_reducible refine' isi_L_tuple ?vh ?_); (case vh => walk_at "fr"))
  | ((with_reducible refine' isi_T_tuple ?vh ?_); (case vh => walk_at "fr"))
  | ((with_reducible refine' isi_L_str ?vh ?_); (case vh => walk_at "fr"))
  | ((with_reducible refine' isi_T_str ?vh ?_); (case vh => walk_at "fr"))
  | ((with_reducible refine' isi_L_int ?vh ?_); (case vh => walk_at "fr"))
  | ((with_reducible refine' isi_T_int ?vh ?_); (case vh => walk_at "fr"))
  | ((with_reducible refine' isi_L_bool ?vh ?_); (case vh => walk_at "fr"))
  | ((with_reducible refine' isi_T_bool ?vh ?_); (case vh => walk_at "fr")))
local macro_rules | `(tactic| walk_at "s") => `(tactic| repeat (first
  | with_reducible refine Stp.h ?_
  | ((with_reducible refine szc ?_ ?_); walk_at "sz")
  | ((with_reducible refine' w_kTyL ?vh ?_); (case vh => walk_at "fr"))
  | ((with_reducible refine' w_lenL ?vh ?_); (case vh => walk_at "fr"))
  | ((with_reducible refine' w_lenT ?vh ?_); (case vh => walk_at "fr"))))
local macro_rules | `(tactic| walk_at "gr") => `(tactic| first
  | exact Gr.refl _ _
  | assumption
  | exact Gr.wide (by assumption)
  | (refine Gr.trans ?_ (by assumption); walk_at "gr")
  | (refine Gr.trans ?_ (Gr.wide (by assumption)); walk_at "gr"))
local macro_rules | `(tactic| walk_at "s2") => `(tactic| (with_reducible refine Stp.h ?_; with_reducible refine Stp.h ?_))

section
variable {P : Program} {w : World} {K : PySem.W.Frag} {mg : Str → Option Value} {base : Heap}
theorem call_isXK {X : Cx} (h : X.K = K) : CallR X (.builtin "isinstance") (rIsX K) := by subst h; exact call_isX
theorem bt_VE : bootBuiltins "ValueError" = some (.type "ValueError") := by decide +kernel
theorem takes_no {X : Cx} : Takes X (fun _ _ _ _ => False) := fun u s' ⟨a, B, sI, pins, σ, H, cls, d, _, _, _, _, _, _, _, _, w⟩ => w.elim
theorem imp_ref (T : TX K mg) : FnOk P w K mg base (L2.CX P w) 42 T.d_sheet_from.a T.d_sheet_from.d ["text"] (spRef T) :=
  (ok_sheet_from T).imp fun vs H Q E ⟨z, k, e, hz, hm, hk, kb⟩ => ⟨z, e, hz, hm, (by intro sets ps prog h; rw [hk] at h; cases h), (by intro k' h; rw [hk] at h; injection h with h; subst h; exact kb)⟩
/-- the doors that read a sheet -/
def doors (T : TX K mg) (f : Addr) : Prop := f = T.d_sheet_from.a ∨ f = T.d_answers.a ∨ f = T.d_turns_text.a
theorem doors_ok (T : TX K mg) : ∀ f, doors T f → ∃ fd, FnOk P w K mg base (L2.CX P w) 44 f fd ["text"] (spRef T) ∧ PySem.W.keepIn K (.ref f) = true ∧ Binds K fd ["text"] [] := by
  intro f h
  rcases h with rfl | rfl | rfl
  · exact ⟨_, (imp_ref T).mono (by decide), T.d_sheet_from.F.kp, T.d_sheet_from.b⟩
  · exact ⟨_, ok_answers T, T.d_answers.F.kp, T.d_answers.b⟩
  · exact ⟨_, ok_turns_text T, T.d_turns_text.F.kp, T.d_turns_text.b⟩
def spRefused (T : TX K mg) : Sp := fun vs H Q _ => ∃ (f : Addr) (z : Str) (k : Nat), vs = [.ref f, .str z] ∧ doors T f ∧ z.length ≤ 1000000 ∧ (Txt.split z "\n").length ≤ 40 ∧ sheetX z = .error k ∧ ∀ H', Gr [] H H' → Q (.int (k : Int)) H'
theorem sc_law_refused : FnScope ["_law_told", "_law_text", "_law_caught", "error", "_law_others"] ["_law_told", "_law_text"] (defScope s_law_refused) := ⟨rfl, rfl, rfl, by decide +kernel, rfl, by decide +kernel, by decide +kernel⟩
theorem ok_law_refused (T : TX K mg) : FnOk P w K mg base CX0 45 T.d_law_refused.a T.d_law_refused.d ["_law_told", "_law_text"] (spRefused T) := by
  refine T.d_law_refused.F.ok sc_law_refused (fun vs H Q E h => ?_) (fun cdv A outer s H vs Q E hr h => ?_)
  · obtain ⟨f, z, k, rfl, _⟩ := h; rfl
  obtain ⟨f, z, k, rfl, hf, hz, hm, hk, q⟩ := h
  refine ⟨_, (pss_cons (ps_set (i := 2) sc_law_refused.nd rfl (Or.inl rfl) pe_non)
    (pss_cons (ps_try_keep (i := 3) (c := .ref T.e_BadRow.C0) rfl rfl rfl sc_law_refused.nd rfl rfl ⟨(by rfl), (by decide +kernel), Or.inl T.e_BadRow.g0⟩ takes_no
      (fun W pn xe tk own => pss_one (ps_expr (pe_callLS (i := 0) (sp := spRef T) (S := doors T) (doors_ok T) (hr.mono (by decide)) rfl (Or.inl rfl) (fun σ => passAt tk σ) (pa_cons (pv 1) pa_nil))))
      (fun a oe cls d pn hz hf => pss_one (ps_set (i := 2) sc_law_refused.nd rfl (Or.inl rfl) (pv 3))))
    (pss_cons (ps_if (pt_cmp (pc_isN (pv 2)) rfl) (pss_one (ps_ret pe_str)) pss_nil)
    (pss_cons (ps_set (i := 4) sc_law_refused.nd rfl (Or.inl rfl) (pe_or (pe_callB (call_isXK (K := K) rfl) (by rfl) T.z_isinstance bt_isinstance (pa_cons (pv 2) (pa_cons (pe_tup (pa_cons (pe_glob (v := .ref T.C_Known) (by rfl) T.g_Known rfl) (pa_cons (pe_glob (v := .ref T.C_Missing) (by rfl) T.g_Missing rfl) (pa_cons (pe_glob (v := .ref T.C_NoSetting) (by rfl) T.g_NoSetting rfl) (pa_cons (pe_glob (v := .ref T.C_NoTask) (by rfl) T.g_NoTask rfl) (pa_cons (pe_glob (v := .ref T.C_NoWorld) (by rfl) T.g_NoWorld rfl) pa_nil)))))) pa_nil)))
        (pe_one (pe_not (pe_callB (call_isXK (K := K) rfl) (by rfl) T.z_isinstance bt_isinstance (pa_cons (pv 2) (pa_cons (pe_bltn (v := .ty "ValueError") (by rfl) T.z_ValueError bt_VE rfl) pa_nil)))))))
    (pss_one (ps_ret (pe_ifExp (PW.pt (pw_and (pt_val (pe_callB (call_isXK (K := K) rfl) (by rfl) T.z_isinstance bt_isinstance (pa_cons (pv 2) (pa_cons (pe_glob (v := .ref T.e_BadRow.C) (by rfl) T.e_BadRow.gC rfl) pa_nil)))) (pw_and1 (pt_not (pt_val (pv 4)))))) (peK (f := fun K => tXk K _ _) (K := K) rfl (pe_xk (pv 2))) pe_str))))))), ?_⟩
  refine at_start [some (.ref f), some (.str z), none, none, none] rfl ?_
  walk_at "s"
  refine ⟨f, rfl, hf, ?_⟩
  walk_at "s"
  refine ⟨z, k, rfl, hz, hm, hk, fun d H1 g1 hd => ?_⟩
  refine ⟨true, T.x_exm, fun _ a ha => ?_, fun h => absurd h (by decide)⟩
  have ed1 : (upd H1 d (.xd [("what", .int (k : Int))])) d = some (.xd [("what", .int (k : Int))]) := upd_same
  have gd : Gr [] H1 (upd H1 d (.xd [("what", .int (k : Int))])) := Gr.new hd
  generalize upd H1 d (.xd [("what", .int (k : Int))]) = H2 at *
  have nda : d ≠ a := ne_of_none ed1 ha
  show tAsg (tVar 3) (gName 2) _ _ _
  refine at_start [some (.ref f), some (.str z), some .non, some (.ref a), none] rfl ?_
  walk_at "s"
  refine ⟨ha, ?_⟩
  have ea3 : (upd H2 a (cgt (.ref T.e_BadRow.C) (some d) a)) a = some (cgt (.ref T.e_BadRow.C) (some d) a) := upd_same
  have ed3 : (upd H2 a (cgt (.ref T.e_BadRow.C) (some d) a)) d = some (.xd [("what", .int (k : Int))]) := by rw [upd_ne nda]; exact ed1
  have ga : Gr [] H2 (upd H2 a (cgt (.ref T.e_BadRow.C) (some d) a)) := Gr.new ha
  generalize upd H2 a (cgt (.ref T.e_BadRow.C) (some d) a) = H3 at *
  refine at_start [some (.ref f), some (.str z), some (.ref a), none, none] rfl ?_
  walk_at "s"
  refine w_kTup (fun p4 H4 g4 hp4 e4 => ?_) (by simp)
  refine ⟨a, d, T.e_BadRow.C, _, g4.get0 ea3, g4.get0 ed3, T.x_xc, Or.inr ⟨p4, _, _, false, rfl, e4, .cons (.own _) (.cons (.own _) (.cons (.own _) (.cons (.own _) (.cons (.own _) .nil)))), T.x_any, ?_⟩⟩
  walk_at "s"
  refine ⟨a, d, T.e_BadRow.C, _, g4.get0 ea3, g4.get0 ed3, T.x_xc, Or.inl ⟨_, _, true, rfl, .ty _, T.x_val, ?_⟩⟩
  walk_at "s"
  refine ⟨a, d, T.e_BadRow.C, _, g4.get0 ea3, g4.get0 ed3, T.x_xc, Or.inl ⟨_, _, true, rfl, .own _, T.x_one, ?_⟩⟩
  walk_at "s"
  refine ⟨.ref a, rfl, a, d, T.e_BadRow.C, _, .int (k : Int), rfl, g4.get0 ea3, g4.get0 ed3, T.x_xc, T.e_BadRow.noF, ?_, ?_⟩
  · simp [List.lookup]
  · exact q H4 (g1.trans (gd.trans (ga.trans g4)))
end
end RS
set_option Elab.async false
set_option linter.all false
set_option maxRecDepth 100000
set_option maxHeartbeats 4000000

namespace RS
open PySem L2
/-! steps by their heads -/
local macro_rules | `(tactic| walk_at "fr") => `(tactic| first
  | assumption
  | exact SqL.of (by assumption)
  | exact SqT.of (by assumption)
  | exact Or.inl (by assumption)
  | exact Or.inr (by assumption)
  | (refine Gr.get (by assumption) ?_ (by walk_at "nin"); walk_at "fr")
  | (refine Gr.tup (by assumption) _ _ ?_; walk_at "fr")
  | (refine SqL.of ?_; walk_at "fr1")
  | (refine SqT.of ?_; walk_at "fr1")
  | (refine Gr.sqL (by assumption) ?_ (by walk_at "nin"); walk_at "fr")
  | (refine Gr.sqT (by assumption) ?_ (by walk_at "nin"); walk_at "fr")
  | (refine Gr.rep0 (by assumption) ?_; walk_at "fr")
  | (refine Gr.reps0 (by assumption) ?_; walk_at "fr"))
local macro_rules | `(tactic| walk_at "fr1") => `(tactic| first
  | assumption
  | (refine Gr.tup (by assumption) _ _ ?_; walk_at "fr1")
  | (refine Gr.get (by assumption) ?_ (by walk_at "nin"); walk_at "fr1"))
local macro_rules | `(tactic| walk_at "nin") => `(tactic| first
  | exact nin_nil
  | assumption
  | (refine nin_one ?_; walk_at "ne"))
local macro_rules | `(tactic| walk_at "ne") => `(tactic| first
  | assumption
  | exact Ne.symm (by assumption)
  | exact ne_new (by assumption) (by assumption)
  | exact Ne.symm (ne_new (by assumption) (by assumption)))
local macro_rules | `(tactic| walk_at "sz") => `(tactic| first
  | assumption
  | exact rfl
  | omega
  | (simp only [List.length_cons, List.length_nil, List.length_append, List.length_map, CDiv, CDivN, CMul]; omega)
  | decide
  | (constructor <;> first | exact rfl | omega | assumption | (simp only [List.length_cons, List.length_nil, List.length_append, List.length_map]; omega) | decide))
local macro_rules | `(tactic| walk_at "i1") => `(tactic| first
  | ((with_reducible refine' isi_L_list ?vh ?_); (case vh => walk_at "fr"))
  | ((with_reducible refine' isi_T_list ?vh ?_); (case vh => walk_at "fr"))
  | ((with_reducible refine' isi_L_tuple ?vh ?_); (case vh => walk_at "fr"))
  | ((with_reducible refine' isi_T_tuple ?vh ?_); (case vh => walk_at "fr"))
  | ((with_reducible refine' isi_L_str ?vh ?_); (case vh => walk_at "fr"))
  | ((with_reducible refine' isi_T_str ?vh ?_); (case vh => walk_at "fr"))
  | ((with_reducible refine' isi_L_int ?vh ?_); (case vh => walk_at "fr"))
  | ((with_reducible refine' isi_T_int ?vh ?_); (case vh => walk_at "fr"))
  | ((with_reducible refine' isi_L_bool ?vh ?_); (case vh => walk_at "fr"))
  | ((with_reducible refine' isi_T_bool ?vh ?_); (case vh => walk_at "fr")))
local macro_rules | `(tactic| walk_at "s") => `(tactic| repeat (first
  | with_reducible refine Stp.h ?_
  | ((with_reducible refine szc ?_ ?_); walk_at "sz")
  | ((with_reducible refine' w_kTyL ?vh ?_); (case vh => walk_at "fr"))
  | ((with_reducible refine' w_lenL ?vh ?_); (case vh => walk_at "fr"))
  | ((with_reducible refine' w_lenT ?vh ?_); (case vh => walk_at "fr"))))
local macro_rules | `(tactic| walk_at "gr") => `(tactic| first
  | exact Gr.refl _ _
  | assumption
  | exact Gr.wide (by assumption)
  | (refine Gr.trans ?_ (by assumption); walk_at "gr")
  | (refine Gr.trans ?_ (Gr.wide (by assumption)); walk_at "gr"))
local macro_rules | `(tactic| walk_at "s2") => `(tactic| (with_reducible refine Stp.h ?_; with_reducible refine Stp.h ?_))

section
variable {P : Program} {w : World} {K : PySem.W.Frag} {mg : Str → Option Value} {base : Heap}
def BoxAt (H : Hp) (b : Addr) (n : Int) : Prop := ∃ x y z : Int, H b = some (.lst [.int x, .int y, .int z]) ∧ 0 ≤ x ∧ 0 ≤ z ∧ z ≤ n ∧ n ≤ 1000000000000
theorem BoxAt.live {H : Hp} {b : Addr} {n : Int} (h : BoxAt H b n) : ∃ o, H b = some o := by obtain ⟨x, y, z, h, _⟩ := h; exact ⟨_, h⟩
theorem Gr.box {H H' : Hp} {b : Addr} {n : Int} (g : Gr [] H H') (h : BoxAt H b n) : BoxAt H' b n := by
  obtain ⟨x, y, z, h, r⟩ := h; exact ⟨x, y, z, g.get0 h, r⟩
theorem Gr.boxF {H H' : Hp} {b : Addr} {n : Int} {fp : List Addr} (g : Gr fp H H') (h : BoxAt H b n) (nb : b ∉ fp) : BoxAt H' b n := by
  obtain ⟨x, y, z, h, r⟩ := h; exact ⟨x, y, z, g.get h nb, r⟩
theorem BoxAt.mono {H : Hp} {b : Addr} {n m : Int} (h : BoxAt H b n) (hm : n ≤ m) (h2 : m ≤ 1000000000000) : BoxAt H b m := by
  obtain ⟨x, y, z, h, h0, h1, h2', h3⟩ := h; exact ⟨x, y, z, h, h0, h1, by omega, h2⟩
def spCell (K : PySem.W.Frag) : Sp := fun vs H Q _ => ∃ (s : Addr) (ns : List Int) (k : Nat), vs = [.ref s, .int (k : Int)] ∧ SqL K H s (ns.map V.int) ∧ ∀ i H', Gr [] H H' → Q (.int i) H'
theorem sc_law_cell_at : FnScope ["_law_script", "_law_k"] ["_law_script", "_law_k"] (defScope s_law_cell_at) := ⟨rfl, rfl, rfl, by decide +kernel, rfl, by decide +kernel, by decide +kernel⟩
theorem ok_law_cell_at (T : TX K mg) : FnOk P w K mg base CX0 1 T.d_law_cell_at.a T.d_law_cell_at.d ["_law_script", "_law_k"] (spCell K) := by
  refine T.d_law_cell_at.F.ok sc_law_cell_at (fun vs H Q E h => ?_) (fun cdv A outer s H vs Q E hr h => ?_)
  · obtain ⟨s, ns, k, rfl, _⟩ := h; rfl
  obtain ⟨s, ns, k, rfl, hL, q⟩ := h
  refine ⟨_, (pss_cons (ps_if (pt_cmpR op_lt (pv 1) (pe_callB (call_lenK (K := K) rfl) (by rfl) T.z_len bt_len (pa_cons (pv 0) pa_nil)) (nomark _))
    (pss_one (ps_ret (pe_ix (ix_anyK (K := K) rfl) (pv 0) (pv 1) (fun _ _ => rfl))))
    pss_nil)
  (pss_one (ps_ret pe_int))), ?_⟩
  refine at_start [some (.ref s), some (.int (k : Int))] rfl ?_
  walk_at "s"
  by_cases hlt : k < ns.length
  · rw [decide_eq_true (show (k : Int) < ((ns.map V.int).length : Int) by rw [List.length_map]; omega)]
    walk_at "s"
    refine w_ixL hL (atI_nat' (show (ns.map V.int)[k]? = some (V.int ns[k]) by rw [List.getElem?_map, List.getElem?_eq_getElem hlt]; rfl)) ?_
    walk_at "s"
    exact q _ _ (Gr.refl _ _)
  · rw [decide_eq_false (show ¬ (k : Int) < ((ns.map V.int).length : Int) by rw [List.length_map]; omega)]
    walk_at "s"
    exact q _ _ (Gr.refl _ _)
def spBox (K : PySem.W.Frag) : Sp := fun vs H Q _ => ∃ (s : Addr) (ns : List Int) (k : Nat), vs = [.ref s, .int (k : Int)] ∧ SqL K H s (ns.map V.int) ∧ k ≤ 1000 ∧ ∀ p H', Gr [] H H' → H p = none → BoxAt H' p 0 → Q (.ref p) H'
theorem sc_law_box : FnScope ["_law_script", "_law_k", "_law_cell"] ["_law_script", "_law_k"] (defScope s_law_box) := ⟨rfl, rfl, rfl, by decide +kernel, rfl, by decide +kernel, by decide +kernel⟩
theorem ok_law_box (T : TX K mg) : FnOk P w K mg base CX0 2 T.d_law_box.a T.d_law_box.d ["_law_script", "_law_k"] (spBox K) := by
  refine T.d_law_box.F.ok sc_law_box (fun vs H Q E h => ?_) (fun cdv A outer s H vs Q E hr h => ?_)
  · obtain ⟨s, ns, k, rfl, _⟩ := h; rfl
  obtain ⟨s, ns, k, rfl, hL, hk, q⟩ := h
  refine ⟨_, (pss_cons (ps_set (i := 2) sc_law_box.nd rfl (Or.inl rfl) (pe_call (ok_law_cell_at T) (hr.mono (by decide)) (by rfl) T.d_law_cell_at.g T.d_law_cell_at.F.kp T.d_law_cell_at.b .nil pass0 (pa_cons (pv 0) (pa_cons (pv 1) pa_nil))))
  (pss_one (ps_ret (pe_lst (pa_cons (pe_op op_mulA (pe_callB call_absA (by rfl) T.z_abs bt_abs (pa_cons (pv 2) pa_nil)) (pe_callTy call_intA (by rfl) T.z_int bt_int (pa_cons (pe_cmpR op_ge (pe_callB call_absA (by rfl) T.z_abs bt_abs (pa_cons (pv 2) pa_nil)) (pe_op op_pow pe_int pe_int) (nomark _)) pa_nil))) (pa_cons (pe_op (op_addK (K := K) rfl) (pe_op (op_addK (K := K) rfl) (pe_op op_mod (pv 2) pe_int) (pe_op op_mulA pe_int (pv 1))) pe_int) (pa_cons pe_int pa_nil))))))), ?_⟩
  refine at_start [some (.ref s), some (.int (k : Int)), none] rfl ?_
  walk_at "s"
  refine ⟨s, ns, k, rfl, hL, fun i H1 g1 => ?_⟩
  walk_at "s"
  refine w_kLst (fun p H2 g2 hp e2 => ?_) (by simp only [List.length_cons, List.length_nil]; omega)
  walk_at "s"
  have nn : ∀ bb : Bool, 0 ≤ (if i < 0 then -i else i) * (if bb = true then (1 : Int) else 0) := by
    intro bb
    apply Int.mul_nonneg
    · split <;> omega
    · cases bb <;> decide
  refine q p H2 (g1.trans g2) (g1.free hp) ⟨_, _, 0, e2, nn _, Int.le_refl _, Int.le_refl _, by decide⟩
theorem w_setL {p : Addr} {xs : List V} {k : Int} {j : Nat} {v : V} {H : Hp} {Q : Hp → Prop} (h : H p = some (.lst xs)) (hj : ixN xs.length k = some j) (q : ∀ H', Gr [p] H H' → H' p = some (.lst (xs.set j v)) → Q H') : rSetL (.ref p) (.int k) v H Q :=
  ⟨p, xs, k, j, rfl, rfl, h, hj, put_obj (Q := Q) h rfl q⟩
instance {to ti : TE} {t : TSet} {v : V} {σ : L2.St} {H : Hp} {Q : L2.St → Hp → Prop} : Stp (gSub to ti t v σ H Q) (to σ H fun o H1 => ti σ H1 fun i H2 => t o i v H2 fun H3 => Q σ H3) := ⟨id⟩
def spTake : Sp := fun vs H Q _ => ∃ (b : Addr) (n m : Int), vs = [.ref b, .int m] ∧ BoxAt H b n ∧ n < 1000000000000 ∧ 0 < m ∧ m < 1073741824 ∧ ∀ v H', Gr [b] H H' → BoxAt H' b (n + 1) → 0 ≤ v → v < m → Q (.int v) H'
theorem sc_law_take : FnScope ["_law_box_here", "_law_many", "_law_found", "_law_once", "_law_twice"] ["_law_box_here", "_law_many"] (defScope s_law_take) := ⟨rfl, rfl, rfl, by decide +kernel, rfl, by decide +kernel, by decide +kernel⟩
theorem ok_law_take (T : TX K mg) : FnOk P w K mg base CX0 1 T.d_law_take.a T.d_law_take.d ["_law_box_here", "_law_many"] spTake := by
  refine T.d_law_take.F.ok sc_law_take (fun vs H Q E h => ?_) (fun cdv A outer s H vs Q E hr h => ?_)
  · obtain ⟨b, n, m, rfl, _⟩ := h; rfl
  obtain ⟨b, n, m, rfl, hb, hn, hm, hm2, q⟩ := h
  obtain ⟨x, y, z, eb, hx, hz, hzn, hn2⟩ := hb
  refine ⟨_, (pss_cons (ps_if (pt_cmpR op_gt (pe_ix (ix_anyK (K := K) rfl) (pv 0) pe_int (fun _ _ => rfl)) pe_int (nomark _))
    (pss_cons (ps_set (i := 2) sc_law_take.nd rfl (Or.inl rfl) (pe_op op_mod (pe_ix (ix_anyK (K := K) rfl) (pv 0) pe_int (fun _ _ => rfl)) (pv 1)))
  (pss_cons (ps_asg (pe_op op_fdivA (pe_ix (ix_anyK (K := K) rfl) (pv 0) pe_int (fun _ _ => rfl)) (pv 1)) (pg_sub (pv 0) pe_int set_list))
  (pss_one (ps_ret (pv 2)))))
    pss_nil)
  (pss_cons (ps_asg (pe_op (op_addK (K := K) rfl) (pe_ix (ix_anyK (K := K) rfl) (pv 0) pe_int (fun _ _ => rfl)) pe_int) (pg_sub (pv 0) pe_int set_list))
  (pss_cons (ps_set (i := 3) sc_law_take.nd rfl (Or.inl rfl) (pe_op op_mod (pe_op op_mulA (pe_op (op_addK (K := K) rfl) (pe_ix (ix_anyK (K := K) rfl) (pv 0) pe_int (fun _ _ => rfl)) (pe_op op_mulA pe_int (pe_ix (ix_anyK (K := K) rfl) (pv 0) pe_int (fun _ _ => rfl)))) (pe_op (op_addK (K := K) rfl) pe_int (pe_ix (ix_anyK (K := K) rfl) (pv 0) pe_int (fun _ _ => rfl)))) pe_int))
  (pss_cons (ps_set (i := 4) sc_law_take.nd rfl (Or.inl rfl) (pe_op op_mod (pe_op op_mulA (pe_op (op_addK (K := K) rfl) (pv 3) (pe_ix (ix_anyK (K := K) rfl) (pv 0) pe_int (fun _ _ => rfl))) (pe_op (op_addK (K := K) rfl) (pe_op op_mod (pv 3) pe_int) pe_int)) pe_int))
  (pss_one (ps_ret (pe_op op_mod (pe_op op_fdivA (pe_op op_mod (pe_op (op_addK (K := K) rfl) (pe_op op_mulA (pv 4) pe_int) (pv 3)) pe_int) pe_int) (pv 1)))))))), ?_⟩
  refine at_start [some (.ref b), some (.int m), none, none, none] rfl ?_
  walk_at "s"
  have i0 : ∀ (H' : Hp) (x z : Int) (Q : VK), H' b = some (.lst [.int x, .int y, .int z]) → Q (.int x) H' → rIxA K (.ref b) (.int 0) H' Q := fun H' x z Q e q => w_ixL (SqL.of e) (atI_zero rfl) q
  have i1 : ∀ (H' : Hp) (x z : Int) (Q : VK), H' b = some (.lst [.int x, .int y, .int z]) → Q (.int y) H' → rIxA K (.ref b) (.int 1) H' Q := fun H' x z Q e q => w_ixL (SqL.of e) (show atI _ ((1 : Nat) : Int) = some (V.int y) from atI_nat' rfl) q
  have i2 : ∀ (H' : Hp) (x z : Int) (Q : VK), H' b = some (.lst [.int x, .int y, .int z]) → Q (.int z) H' → rIxA K (.ref b) (.int 2) H' Q := fun H' x z Q e q => w_ixL (SqL.of e) (show atI _ ((2 : Nat) : Int) = some (V.int z) from atI_nat' rfl) q
  refine i0 _ _ _ _ eb ?_
  walk_at "s"
  refine iteB (fun h1 => ?_) (fun h1 => ?_)
  · walk_at "s"
    refine i0 _ _ _ _ eb ?_
    walk_at "s"
    refine i0 _ _ _ _ eb ?_
    walk_at "s"
    refine w_setL eb rfl (fun H1 g1 e1 => ?_)
    walk_at "s"
    refine q _ H1 g1 ⟨_, _, _, e1, Int.ediv_nonneg hx (by omega), hz, by omega, by omega⟩ (Int.emod_nonneg _ (by omega)) (Int.emod_lt_of_pos _ hm)
  · walk_at "s"
    refine i2 _ _ _ _ eb ?_
    walk_at "s"
    refine w_setL eb rfl (fun H1 g1 e1 => ?_)
    have e1' : H1 b = some (.lst [.int x, .int y, .int (z + 1)]) := e1
    walk_at "s"
    refine i1 _ _ _ _ e1' ?_
    walk_at "s"
    refine i2 _ _ _ _ e1' ?_
    walk_at "s"
    refine i2 _ _ _ _ e1' ?_
    walk_at "s"
    refine i2 _ _ _ _ e1' ?_
    walk_at "s"
    refine q _ H1 g1 ⟨_, _, _, e1', hx, by omega, by omega, by omega⟩ (Int.emod_nonneg _ (by omega)) (Int.emod_lt_of_pos _ hm)
end
end RS
set_option Elab.async false
set_option linter.all false
set_option maxRecDepth 100000
set_option maxHeartbeats 4000000

namespace RS
open PySem L2
/-! steps by their heads -/
local macro_rules | `(tactic| walk_at "fr") => `(tactic| first
  | assumption
  | exact SqL.of (by assumption)
  | exact SqT.of (by assumption)
  | exact Or.inl (by assumption)
  | exact Or.inr (by assumption)
  | (refine Gr.get (by assumption) ?_ (by walk_at "nin"); walk_at "fr")
  | (refine Gr.tup (by assumption) _ _ ?_; walk_at "fr")
  | (refine SqL.of ?_; walk_at "fr1")
  | (refine SqT.of ?_; walk_at "fr1")
  | (refine Gr.sqL (by assumption) ?_ (by walk_at "nin"); walk_at "fr")
  | (refine Gr.sqT (by assumption) ?_ (by walk_at "nin"); walk_at "fr")
  | (refine Gr.rep0 (by assumption) ?_; walk_at "fr")
  | (refine Gr.reps0 (by assumption) ?_; walk_at "fr"))
local macro_rules | `(tactic| walk_at "fr1") => `(tactic| first
  | assumption
  | (refine Gr.tup (by assumption) _ _ ?_; walk_at "fr1")
  | (refine Gr.get (by assumption) ?_ (by walk_at "nin"); walk_at "fr1"))
local macro_rules | `(tactic| walk_at "nin") => `(tactic| first
  | exact nin_nil
  | assumption
  | (refine nin_one ?_; walk_at "ne"))
local macro_rules | `(tactic| walk_at "ne") => `(tactic| first
  | assumption
  | exact Ne.symm (by assumption)
  | exact ne_new (by assumption) (by assumption)
  | exact Ne.symm (ne_new (by assumption) (by assumption)))
local macro_rules | `(tactic| walk_at "sz") => `(tactic| first
  | assumption
  | exact rfl
  | omega
  | (simp only [List.length_cons, List.length_nil, List.length_append, List.length_map, CDiv, CDivN, CMul]; omega)
  | decide
  | (constructor <;> first | exact rfl | omega | assumption | (simp only [List.length_cons, List.length_nil, List.length_append, List.length_map]; omega) | decide))
local macro_rules | `(tactic| walk_at "i1") => `(tactic| first
  | ((with_reducible refine' isi_L_list ?vh ?_); (case vh => walk_at "fr"))
  | ((with_reducible refine' isi_T_list ?vh ?_); (case vh => walk_at "fr"))
  | ((with_reducible refine' isi_L_tuple ?vh ?_); (case vh => walk_at "fr"))
  | ((with_reducible refine' isi_T_tuple ?vh ?_); (case vh => walk_at "fr"))
  | ((with_reducible refine' isi_L_str ?vh ?_); (case vh => walk_at "fr"))
  | ((with_reducible refine' isi_T_str ?vh ?_); (case vh => walk_at "fr"))
  | ((with_reducible refine' isi_L_int ?vh ?_); (case vh => walk_at "fr"))
  | ((with_reducible refine' isi_T_int ?vh ?_); (case vh => walk_at "fr"))
  | ((with_reducible refine' isi_L_bool ?vh ?_); (case vh => walk_at "fr"))
  | ((with_reducible refine' isi_T_bool ?vh ?_); (case vh => walk_at "fr")))
local macro_rules | `(tactic| walk_at "s") => `(tactic| repeat (first
  | with_reducible refine Stp.h ?_
  | ((with_reducible refine szc ?_ ?_); walk_at "sz")
  | ((with_reducible refine' w_kTyL ?vh ?_); (case vh => walk_at "fr"))
  | ((with_reducible refine' w_lenL ?vh ?_); (case vh => walk_at "fr"))
  | ((with_reducible refine' w_lenT ?vh ?_); (case vh => walk_at "fr"))))
local macro_rules | `(tactic| walk_at "gr") => `(tactic| first
  | exact Gr.refl _ _
  | assumption
  | exact Gr.wide (by assumption)
  | (refine Gr.trans ?_ (by assumption); walk_at "gr")
  | (refine Gr.trans ?_ (Gr.wide (by assumption)); walk_at "gr"))
local macro_rules | `(tactic| walk_at "s2") => `(tactic| (with_reducible refine Stp.h ?_; with_reducible refine Stp.h ?_))

/-! the law's state: its box, how many draws at most, what else there is -/
structure BW (Ω : Type) where
  b : Option Addr
  n : Int
  x : Ω
def boxM {Ω : Type} (M0 : WM Ω) : WM (BW Ω) where
  R w Z H := ∃ Z0, M0.R w.x Z0 H ∧ (∀ a, Z a ↔ Z0 a ∨ w.b = some a) ∧ ∀ a, w.b = some a → ¬ Z0 a ∧ BoxAt H a w.n
  keep w Z H H' := by
    rintro ⟨Z0, h1, h2, h3⟩ k t
    refine ⟨Z0, M0.keep _ _ _ _ h1 (fun a z => k a ((h2 a).mpr (.inl z))) t, h2, fun a ha => ⟨(h3 a ha).1, ?_⟩⟩
    obtain ⟨x, y, z, h4, h5⟩ := (h3 a ha).2
    exact ⟨x, y, z, by rw [k a ((h2 a).mpr (.inr ha))]; exact h4, h5⟩
  live w Z H a := by
    rintro ⟨Z0, h1, h2, h3⟩ z
    rcases (h2 a).mp z with z | z
    · exact M0.live _ _ _ a h1 z
    · exact (h3 a z).2.live
def unitM : WM Unit where
  R _ Z _ := ∀ a, ¬ Z a
  keep _ _ _ _ h _ _ := h
  live _ _ _ a h z := (h a z).elim
section
variable {P : Program} {w : World} {K : PySem.W.Frag} {mg : Str → Option Value} {base : Heap} {Ω : Type} {M0 : WM Ω}
/-- a cell of the script -/
def aCell : ASp (BW Ω) := fun ds w Q _ => ∃ (ns : List Int) (k : Nat), ds = [.ro (ns.map .int), .int (k : Int)] ∧ ∀ i, Q (.int i) w
theorem okd_cell_at (T : TX K mg) : FnOk P w K mg base CX0 1 T.d_law_cell_at.a T.d_law_cell_at.d ["_law_script", "_law_k"] (liftSp (boxM M0) K 2 aCell) := by
  refine (ok_law_cell_at T).imp fun vs H R E h => ?_
  obtain ⟨ds, w, Zf, Zw, AQ, AX, _, ⟨ns, k, rfl, q⟩, L⟩ := h
  obtain ⟨u, v, rfl, p1, p2⟩ := rps_two L.reps
  obtain ⟨a, xs, rfl, ha, ra⟩ := rp_ro p1
  obtain rfl := rp_int p2
  obtain rfl := rps_ints' ra
  exact ⟨a, ns, k, rfl, ha.sqL, fun i H' g => L.k _ _ _ _ _ (WM.keep _ _ _ _ _ L.m (fun b z => by obtain ⟨o, h⟩ := WM.live _ _ _ _ b L.m z; rw [h, g.get0 h]) g.tup) L.fw (Gr.ext g) mk_int (q i)⟩
def aBox : ASp (BW Ω) := fun ds w Q _ => ∃ (ns : List Int) (k : Nat), ds = [.ro (ns.map .int), .int (k : Int)] ∧ k ≤ 1000 ∧ ∀ p, Q (.ref p) { w with b := some p, n := 0 }
theorem okd_box (T : TX K mg) : FnOk P w K mg base CX0 2 T.d_law_box.a T.d_law_box.d ["_law_script", "_law_k"] (liftSp (boxM M0) K 2 aBox) := by
  refine (ok_law_box T).imp fun vs H R E h => ?_
  obtain ⟨ds, w, Zf, Zw, AQ, AX, _, ⟨ns, k, rfl, hk, q⟩, L⟩ := h
  obtain ⟨u, v, rfl, p1, p2⟩ := rps_two L.reps
  obtain ⟨a, xs, rfl, ha, ra⟩ := rp_ro p1
  obtain rfl := rp_int p2
  obtain rfl := rps_ints' ra
  refine ⟨a, ns, k, rfl, ha.sqL, hk, fun p H' g hp hb => ?_⟩
  obtain ⟨Z0, h1, h2, h3⟩ := L.m
  have n0 : ¬ Z0 p := fun z => by obtain ⟨o, h⟩ := M0.live _ _ _ p h1 z; rw [hp] at h; cases h
  refine L.k _ { w with b := some p, n := 0 } _ _ (fun a => Z0 a ∨ a = p) ⟨Z0, M0.keep _ _ _ _ h1 (fun b z => by obtain ⟨o, h⟩ := M0.live _ _ _ b h1 z; rw [h, g.get0 h]) g.tup, fun a => by simp [eq_comm], fun a ha => by cases ha; exact ⟨n0, hb⟩⟩ (fun a z => ?_) ?_ mk_ref (q p)
  · rintro (z' | rfl)
    · exact L.fw a z ((h2 a).mpr (.inl z'))
    · obtain ⟨o, h⟩ := L.fl a z; rw [hp] at h; cases h
  · exact ⟨fun b o h _ => g.get0 h, g.tup, g.live, fun b z => z.elim (fun z => .inl ((h2 b).mpr (.inl z))) fun z => .inr (by rw [z]; exact hp)⟩
def aTake : ASp (BW Ω) := fun ds w Q _ => ∃ (b : Addr) (m : Int), ds = [.ref b, .int m] ∧ w.b = some b ∧ w.n < 1000000000000 ∧ 0 < m ∧ m < 1073741824 ∧ ∀ v, 0 ≤ v → v < m → Q (.int v) { w with n := w.n + 1 }
theorem okd_take (T : TX K mg) : FnOk P w K mg base CX0 1 T.d_law_take.a T.d_law_take.d ["_law_box_here", "_law_many"] (liftSp (boxM M0) K 2 aTake) := by
  refine (ok_law_take T).imp fun vs H R E h => ?_
  obtain ⟨ds, w, Zf, Zw, AQ, AX, _, ⟨b, m, rfl, hb, hn, hm, hm2, q⟩, L⟩ := h
  obtain ⟨u, v, rfl, p1, p2⟩ := rps_two L.reps
  obtain rfl := rp_ref p1
  obtain rfl := rp_int p2
  obtain ⟨Z0, h1, h2, h3⟩ := L.m
  refine ⟨b, w.n, m, rfl, (h3 b hb).2, hn, hm, hm2, fun v H' g bx l1 l2 => ?_⟩
  have n0 := (h3 b hb).1
  refine L.k _ { w with n := w.n + 1 } _ _ Zw ⟨Z0, M0.keep _ _ _ _ h1 (fun c z => ?_) g.tup, h2, fun c hc => ?_⟩ L.fw ⟨fun c o h n => g.get h (nin_one fun e => n (by rw [e]; exact (h2 b).mpr (.inr hb))), g.tup, g.live, fun c z => .inl z⟩ mk_int (q v l1 l2)
  · obtain ⟨o, h⟩ := M0.live _ _ _ c h1 z
    rw [h, g.get h (nin_one fun e => n0 (by rw [← e]; exact z))]
  · have hc' : w.b = some c := hc
    rw [hb] at hc'; cases hc'
    exact ⟨n0, bx⟩
/-- what is to be shown of a draw -/
def kkTake (m : Int) (R : Int → Prop) : Prop := ∀ v, 0 ≤ v → v < m → R v
instance {b : Addr} {m n : Int} {x : Ω} {Q : PD → BW Ω → Prop} {X : XA (BW Ω)} : Stp (aTake [.ref b, .int m] ⟨some b, n, x⟩ Q X) (SzC (n < 1000000000000 ∧ 0 < m ∧ m < 1073741824) ∧ kkTake m fun v => Q (.int v) ⟨some b, n + 1, x⟩) := ⟨fun h => ⟨b, m, rfl, rfl, h.1.1, h.1.2.1, h.1.2.2, h.2⟩⟩
instance {ns : List Int} {k : Nat} {b : Option Addr} {n : Int} {x : Ω} {Q : PD → BW Ω → Prop} {X : XA (BW Ω)} : Stp (aBox [.ro (ns.map .int), .int (k : Int)] ⟨b, n, x⟩ Q X) (SzC (k ≤ 1000) ∧ ∀ p, Q (.ref p) ⟨some p, 0, x⟩) := ⟨fun h => ⟨ns, k, rfl, h.1, h.2⟩⟩
/-- a def that tells a datum of its arguments -/
def fnSp {W : Type} (f : List PD → Option PD) : ASp W := fun ds w Q _ => ∃ d, f ds = some d ∧ Q d w
def f1 (g : PD → Option PD) : List PD → Option PD
  | [d] => g d
  | _ => none
theorem fn_never {P : Program} {w : World} {K : PySem.W.Frag} {mg : Str → Option Value} {base : Heap} {k : Nat} {f : Addr} {fd : FuncData} {ps : List Str} {sp : Sp} (h : ∀ vs H Q E, ¬ sp vs H Q E) : FnOk P w K mg base CX0 k f fd ps sp :=
  ⟨fun _ _ _ _ z => (h _ _ _ _ z).elim, fun _ _ _ _ _ _ _ _ _ _ _ _ _ z => (h _ _ _ _ z).elim⟩
theorem lift_never {W : Type} {M : WM W} {n : Nat} {a : ASp W} (h : ∀ ds w Q X, ¬ a ds w Q X) : ∀ vs H Q E, ¬ liftSp M K n a vs H Q E := fun vs H Q E ⟨ds, w, Zf, Zw, AQ, AX, _, z, _⟩ => h _ _ _ _ z
end
end RS
set_option Elab.async false
set_option linter.all false
set_option maxRecDepth 100000
set_option maxHeartbeats 4000000

namespace RS
open PySem L2
/-! steps by their heads -/
local macro_rules | `(tactic| walk_at "fr") => `(tactic| first
  | assumption
  | exact SqL.of (by assumption)
  | exact SqT.of (by assumption)
  | exact Or.inl (by assumption)
  | exact Or.inr (by assumption)
  | (refine Gr.get (by assumption) ?_ (by walk_at "nin"); walk_at "fr")
  | (refine Gr.tup (by assumption) _ _ ?_; walk_at "fr")
  | (refine SqL.of ?_; walk_at "fr1")
  | (refine SqT.of ?_; walk_at "fr1")
  | (refine Gr.sqL (by assumption) ?_ (by walk_at "nin"); walk_at "fr")
  | (refine Gr.sqT (by assumption) ?_ (by walk_at "nin"); walk_at "fr")
  | (refine Gr.rep0 (by assumption) ?_; walk_at "fr")
  | (refine Gr.reps0 (by assumption) ?_; walk_at "fr"))
local macro_rules | `(tactic| walk_at "fr1") => `(tactic| first
  | assumption
  | (refine Gr.tup (by assumption) _ _ ?_; walk_at "fr1")
  | (refine Gr.get (by assumption) ?_ (by walk_at "nin"); walk_at "fr1"))
local macro_rules | `(tactic| walk_at "nin") => `(tactic| first
  | exact nin_nil
  | assumption
  | (refine nin_one ?_; walk_at "ne"))
local macro_rules | `(tactic| walk_at "ne") => `(tactic| first
  | assumption
  | exact Ne.symm (by assumption)
  | exact ne_new (by assumption) (by assumption)
  | exact Ne.symm (ne_new (by assumption) (by assumption)))
local macro_rules | `(tactic| walk_at "sz") => `(tactic| first
  | assumption
  | exact rfl
  | omega
  | (simp only [List.length_cons, List.length_nil, List.length_append, List.length_map, CDiv, CDivN, CMul]; omega)
  | decide
  | (constructor <;> first | exact rfl | omega | assumption | (simp only [List.length_cons, List.length_nil, List.length_append, List.length_map]; omega) | decide))
local macro_rules | `(tactic| walk_at "i1") => `(tactic| first
  | ((with_reducible refine' isi_L_list ?vh ?_); (case vh => walk_at "fr"))
  | ((with_reducible refine' isi_T_list ?vh ?_); (case vh => walk_at "fr"))
  | ((with_reducible refine' isi_L_tuple ?vh ?_); (case vh => walk_at "fr"))
  | ((with_reducible refine' isi_T_tuple ?vh ?_); (case vh => walk_at "fr"))
  | ((with_reducible refine' isi_L_str ?vh ?_); (case vh => walk_at "fr"))
  | ((with_reducible refine' isi_T_str ?vh ?_); (case vh => walk_at "fr"))
  | ((with_reducible refine' isi_L_int ?vh ?_); (case vh => walk_at "fr"))
  | ((with_reducible refine' isi_T_int ?vh ?_); (case vh => walk_at "fr"))
  | ((with_reducible refine' isi_L_bool ?vh ?_); (case vh => walk_at "fr"))
  | ((with_reducible refine' isi_T_bool ?vh ?_); (case vh => walk_at "fr")))
local macro_rules | `(tactic| walk_at "s") => `(tactic| repeat (first
  | with_reducible refine Stp.h ?_
  | ((with_reducible refine szc ?_ ?_); walk_at "sz")
  | ((with_reducible refine' w_kTyL ?vh ?_); (case vh => walk_at "fr"))
  | ((with_reducible refine' w_lenL ?vh ?_); (case vh => walk_at "fr"))
  | ((with_reducible refine' w_lenT ?vh ?_); (case vh => walk_at "fr"))))
local macro_rules | `(tactic| walk_at "gr") => `(tactic| first
  | exact Gr.refl _ _
  | assumption
  | exact Gr.wide (by assumption)
  | (refine Gr.trans ?_ (by assumption); walk_at "gr")
  | (refine Gr.trans ?_ (Gr.wide (by assumption)); walk_at "gr"))
local macro_rules | `(tactic| walk_at "s2") => `(tactic| (with_reducible refine Stp.h ?_; with_reducible refine Stp.h ?_))

section
variable {P : Program} {w : World} {K : PySem.W.Frag} {mg : Str → Option Value} {base : Heap} {W : Type} {M : WM W}
/-- of a text that isn't too long -/
def fStr (g : Str → PD) : List PD → Option PD
  | [.str z] => if z.length ≤ 1000000 then some (g z) else none
  | _ => none
theorem fStr_open {g : Str → PD} {ds : List PD} {d : PD} (h : fStr g ds = some d) : ∃ z, ds = [.str z] ∧ z.length ≤ 1000000 ∧ d = g z := by
  unfold fStr at h
  split at h
  · split at h
    · cases h; exact ⟨_, rfl, by assumption, rfl⟩
    · cases h
  · cases h
theorem fStr_use {W : Type} {g : Str → PD} {z : Str} {w : W} {Q : PD → W → Prop} {X : XA W} (hz : z.length ≤ 1000000) (q : Q (g z) w) : fnSp (fStr g) [.str z] w Q X := ⟨g z, if_pos hz, q⟩
instance {W : Type} {g : Str → PD} {z : Str} {w : W} {Q : PD → W → Prop} {X : XA W} : Stp (fnSp (fStr g) [.str z] w Q X) (SzC (z.length ≤ 1000000) ∧ Q (g z) w) := ⟨fun h => fStr_use h.1 h.2⟩
abbrev cutD2 (z : Str) : PD := .tup [.str (cutT z).1, optS (cutT z).2]
theorem sc_law_cut : FnScope ["_law_text", "_law_at"] ["_law_text"] (defScope s_law_cut) := ⟨rfl, rfl, rfl, by decide +kernel, rfl, by decide +kernel, by decide +kernel⟩
theorem okd_law_cut (T : TX K mg) : FnOk P w K mg base CX0 1 T.d_law_cut.a T.d_law_cut.d ["_law_text"] (liftSp M K 1 (fnSp (fStr cutD2))) := by
  refine T.d_law_cut.F.ok sc_law_cut (fun vs H Q E h => lift_len h) (fun cdv A outer s H vs Q E hr h => ?_)
  obtain ⟨ds, w, Zf, Zw, AQ, AX, hn, ha, L⟩ := h
  refine ⟨_, (pss_cons (ps_set (i := 1) sc_law_cut.nd rfl (Or.inl rfl) (pe_m1 PySem.F.slot_str_find PySem.F.type_str_find mt_findA (pv 0) pe_str))
  (pss_one (ps_ret (pe_ifExp (pt_cmpR op_lt (pv 1) pe_int (nomark _)) (pe_tup (pa_cons (pv 0) (pa_cons pe_non pa_nil))) (pe_tup (pa_cons (pe_slice (sl_anyK (K := K) rfl) (pv 0) po_none (po_some (pv 1))) (pa_cons (pe_slice (sl_anyK (K := K) rfl) (pv 0) (po_some (pe_op (op_addK (K := K) rfl) (pv 1) pe_int)) po_none) pa_nil))))))), ?_⟩
  refine L.go ?_
  clear L hr
  obtain ⟨d, hd, q⟩ := ha
  obtain ⟨z, rfl, hz, rfl⟩ := fStr_open hd
  refine at_startE [some (.va (.str z)), none] rfl ?_
  walk_at "s"
  have hd2 : cutD2 z = .tup [.str (cutT z).1, optS (cutT z).2] := rfl
  rcases text_forms z with hb | ⟨a, b, rfl, hb⟩
  · rw [find_none hb]
    rw [hd2, cutT_none hb] at q
    rw [decide_eq_true (show (-1 : Int) < 0 by decide)]
    walk_at "s"
    exact q
  · rw [find_app hb]
    rw [hd2, cutT_app hb] at q
    rw [decide_eq_false (show ¬ ((a.length : Int) < 0) by omega)]
    walk_at "s"
    have e1 : cutS (a ++ (" " : Str) ++ b) none (some (a.length : Int)) = a := TL.ext_tl (by rw [tl_cut_to, tl_bl, TL.len_tl, List.take_left])
    have e2 : cutS (a ++ (" " : Str) ++ b) (some ((a.length : Int) + 1)) none = b := TL.ext_tl (by
      rw [show (a.length : Int) + 1 = ((a.length + 1 : Nat) : Int) by omega, tl_cut_from, tl_bl, TL.len_tl, List.drop_append]; simp)
    have e1' : cutS (a ++ Str.ofString " " ++ b) none (some (a.length : Int)) = a := e1
    have e2' : cutS (a ++ Str.ofString " " ++ b) (some ((a.length : Int) + 1)) none = b := e2
    rw [e1', e2']
    exact q
theorem az_mem {c : Nat} : (!decide ([c] < [97]) && !decide ([122] < [c])) = decide (c ∈ LETS.cps.toList) := by
  have h : c ∈ LETS.cps.toList ↔ 97 ≤ c ∧ c ≤ 122 := ⟨lets_of_mem c, lets_mem c⟩
  rw [Bool.eq_iff_iff]
  simp only [Bool.and_eq_true, Bool.not_eq_true', decide_eq_false_iff_not, decide_eq_true_eq, h]
  simp [List.cons_lt_cons_iff]
/-- of a text or None -/
def fOpt (g : Option Str → PD) : List PD → Option PD
  | [.str z] => if z.length ≤ 1000000 then some (g (some z)) else none
  | [.non] => some (g none)
  | _ => none
instance {W : Type} {g : Option Str → PD} {z : Str} {w : W} {Q : PD → W → Prop} {X : XA W} : Stp (fnSp (fOpt g) [.str z] w Q X) (SzC (z.length ≤ 1000000) ∧ Q (g (some z)) w) := ⟨fun h => ⟨_, if_pos h.1, h.2⟩⟩
instance {W : Type} {g : Option Str → PD} {w : W} {Q : PD → W → Prop} {X : XA W} : Stp (fnSp (fOpt g) [.non] w Q X) (Q (g none) w) := ⟨fun h => ⟨_, rfl, h⟩⟩
theorem sc_law_is_name : FnScope ["_law_word", "_law_sign"] ["_law_word"] (defScope s_law_is_name) := ⟨rfl, rfl, rfl, by decide +kernel, rfl, by decide +kernel, by decide +kernel⟩
theorem okd_law_is_name (T : TX K mg) : FnOk P w K mg base CX0 1 T.d_law_is_name.a T.d_law_is_name.d ["_law_word"] (liftSp M K 1 (fnSp (fOpt fun o => .bl (lName o)))) := by
  refine T.d_law_is_name.F.ok sc_law_is_name (fun vs H Q E h => lift_len h) (fun cdv A outer s H vs Q E hr h => ?_)
  obtain ⟨ds, w, Zf, Zw, AQ, AX, hn, ha, L⟩ := h
  refine ⟨_, (pss_one (ps_ret (pe_and (pe_cmp (pc_notN (pv 0)) rfl) (pe_and (pe_chain op_leA op_leA pe_int (pe_callB (call_lenK (K := K) rfl) (by rfl) T.z_len bt_len (pa_cons (pv 0) pa_nil)) pe_int) (pe_one (pe_callB (cr_allK (K := K) rfl rfl) (by rfl) T.z_all bt_all (pa_cons (pe_lc (own := [("_law_sign", 1)]) rfl sc_law_is_name.nd (pi_anyK (K := K) rfl (pv 0)) (blkOk_by (N := ["_law_word", "_law_sign"]) (sc := defScope s_law_is_name) (own := [("_law_sign", 1)]) (by decide +kernel)) (fun _ _ _ _ _ => (pg_name (i := 1) sc_law_is_name.nd rfl (Or.inl rfl))) (fun _ _ _ _ _ => pts_nil) (fun _ _ _ _ _ => (pe_chain op_leA op_leA pe_str (pv 1) pe_str))) pa_nil))))))), ?_⟩
  refine L.go ?_
  clear L hr
  obtain ⟨d, hd, q⟩ := ha
  unfold fOpt at hd
  split at hd
  · rename_i z
    split at hd
    · rename_i hz
      cases hd
      refine at_startE [some (.va (.str z)), none] rfl ?_
      walk_at "s"
      refine iteB (fun h1 => ?_) (fun h1 => ?_)
      · walk_at "s"
        refine iteB (fun h2 => ?_) (fun h2 => ?_)
        · walk_at "s"
          refine lc_signsD [some (.va (.str z)), none] rfl (fun c => .bl (decide (c ∈ LETS.cps.toList))) (by omega) (noOw_dec rfl) (by decide) (fun c hc X hX => ?_) ?_
          · walk_at "s"
            have hm := az_mem (c := c)
            refine iteB (fun h3 => ?_) (fun h3 => ?_)
            · walk_at "s"
              have h3' : (!decide ([c] < [97])) = true := h3
              rw [h3', Bool.true_and] at hm
              have e : (!decide ((Str.ofString "z").cps.toList < ({ cps := #[c] } : Str).cps.toList)) = decide (c ∈ LETS.cps.toList) := hm
              rw [e]
              exact hX _ rfl
            · have h3' : (!decide ([c] < [97])) = false := h3
              rw [h3', Bool.false_and] at hm
              rw [hm]
              exact hX _ rfl
          · walk_at "s"
            have e : lName (some z) = (z.cps.toList.map fun c => decide (c ∈ LETS.cps.toList)).all id := by show isName z = _; unfold isName; rw [h1, h2]; rfl
            rw [← e]; exact q
        · walk_at "s"
          have e : lName (some z) = false := by show isName z = _; unfold isName; rw [h1, h2]; rfl
          rw [← e]; exact q
      · walk_at "s"
        have e : lName (some z) = false := by show isName z = _; unfold isName; rw [h1]; rfl
        rw [← e]; exact q
    · cases hd
  · cases hd
    refine at_startE [some (.va (.non)), none] rfl ?_
    walk_at "s"
    exact q
  · cases hd
/-- figures by their signs -/
theorem fig_mem {c : Nat} : (!decide ([c] < [48]) && !decide ([57] < [c])) = decide (c ∈ FIGS.cps.toList) := by
  have h : c ∈ FIGS.cps.toList ↔ 48 ≤ c ∧ c ≤ 57 := by
    rw [show FIGS.cps.toList = [48, 49, 50, 51, 52, 53, 54, 55, 56, 57] by decide +kernel]
    simp only [List.mem_cons, List.not_mem_nil, or_false]
    omega
  rw [Bool.eq_iff_iff]
  simp only [Bool.and_eq_true, Bool.not_eq_true', decide_eq_false_iff_not, decide_eq_true_eq, h]
  simp [List.cons_lt_cons_iff]
def numAt (z : Str) : PD := match lNum (cutT z).1 with
  | none => .non
  | some n => .tup [.int n, .str (cutS z (some ((cutT z).1.length : Int)) none)]
theorem cutT_len (z : Str) : (cutT z).1.length ≤ z.length := by
  rcases text_forms z with h | ⟨a, b, rfl, h⟩
  · rw [cutT_none h]; exact Nat.le_refl _
  · rw [cutT_app h]; rw [TL.len_tl, TL.len_tl (a ++ (" " : Str) ++ b), TL.tl_append, TL.tl_append]; simp
theorem sc_law_number_at : FnScope ["_law_text", "_law_word", "_law_figures", "_law_sign"] ["_law_text"] (defScope s_law_number_at) := ⟨rfl, rfl, rfl, by decide +kernel, rfl, by decide +kernel, by decide +kernel⟩
theorem okd_law_number_at (T : TX K mg) : FnOk P w K mg base CX0 2 T.d_law_number_at.a T.d_law_number_at.d ["_law_text"] (liftSp M K 1 (fnSp (fStr numAt))) := by
  refine T.d_law_number_at.F.ok sc_law_number_at (fun vs H Q E h => lift_len h) (fun cdv A outer s H vs Q E hr h => ?_)
  obtain ⟨ds, w, Zf, Zw, AQ, AX, hn, ha, L⟩ := h
  refine ⟨_, (pss_cons (ps_set (i := 1) sc_law_number_at.nd rfl (Or.inl rfl) (pe_ix (ix_anyK (K := K) rfl) (pe_call (okd_law_cut (M := M) T) (hr.mono (by decide)) (by rfl) T.d_law_cut.g T.d_law_cut.F.kp T.d_law_cut.b .nil pass0 (pa_cons (pv 0) pa_nil)) pe_int (fun _ _ => rfl)))
  (pss_cons (ps_set (i := 2) sc_law_number_at.nd rfl (Or.inl rfl) (pe_ifExp (pt_cmpR (op_eqK (K := K) rfl (hu64 hr)) (pe_slice (sl_anyK (K := K) rfl) (pv 1) po_none (po_some pe_int)) pe_str (nomark _)) (pe_slice (sl_anyK (K := K) rfl) (pv 1) (po_some pe_int) po_none) (pv 1)))
  (pss_cons (ps_if (PW.pt (pw_or (pt_not (pt_chain op_leA op_leA pe_int (pe_callB (call_lenK (K := K) rfl) (by rfl) T.z_len bt_len (pa_cons (pv 2) pa_nil)) pe_int)) (pw_or (pt_not (pt_val (pe_callB (cr_allK (K := K) rfl rfl) (by rfl) T.z_all bt_all (pa_cons (pe_lc (own := [("_law_sign", 3)]) rfl sc_law_number_at.nd (pi_anyK (K := K) rfl (pv 2)) (blkOk_by (N := ["_law_text", "_law_word", "_law_figures", "_law_sign"]) (sc := defScope s_law_number_at) (own := [("_law_sign", 3)]) (by decide +kernel)) (fun _ _ _ _ _ => (pg_name (i := 3) sc_law_number_at.nd rfl (Or.inl rfl))) (fun _ _ _ _ _ => pts_nil) (fun _ _ _ _ _ => (pe_chain op_leA op_leA pe_str (pv 3) pe_str))) pa_nil)))) (pw_or1 (pt_cmpR (op_neK (K := K) rfl (hu64 hr)) (pe_callTy call_strA (by rfl) T.z_str bt_str (pa_cons (pe_callTy call_intA (by rfl) T.z_int bt_int (pa_cons (pv 1) pa_nil)) pa_nil)) (pv 1) (nomark _))))))
    (pss_one (ps_ret pe_non))
    pss_nil)
  (pss_one (ps_ret (pe_tup (pa_cons (pe_callTy call_intA (by rfl) T.z_int bt_int (pa_cons (pv 1) pa_nil)) (pa_cons (pe_slice (sl_anyK (K := K) rfl) (pv 0) (po_some (pe_callB (call_lenK (K := K) rfl) (by rfl) T.z_len bt_len (pa_cons (pv 1) pa_nil))) po_none) pa_nil)))))))), ?_⟩
  refine L.go ?_
  clear L hr
  obtain ⟨d, hd, q⟩ := ha
  obtain ⟨z, rfl, hz, rfl⟩ := fStr_open hd
  refine at_startE [some (.va (.str z)), none, none, none] rfl ?_
  walk_at "s"
  have hl := cutT_len z
  unfold numAt at q
  generalize (cutT z).1 = w1 at *
  walk_at "s"
  have hsw : decide (cutS w1 none (some 1) = Str.ofString "-") = Txt.startswith w1 "-" := first_minus
  rw [hsw]
  have fl := figs_len w1
  refine ife_join (.str (figsOf w1)) (fun h Q hq => ?_) (fun h Q hq => ?_) ?_
  · walk_at "s"
    unfold figsOf at hq; rw [if_pos h] at hq; exact hq
  · walk_at "s"
    unfold figsOf at hq; rw [if_neg (by rw [h]; exact Bool.false_ne_true)] at hq; exact hq
  walk_at "s"
  have eo : figsOk (figsOf w1) 30 = (decide (1 ≤ ((figsOf w1).length : Int)) && (decide (((figsOf w1).length : Int) ≤ 30) && ((figsOf w1).cps.toList.map fun c => decide (c ∈ FIGS.cps.toList)).all id)) := rfl
  have stop : figsOk (figsOf w1) 30 = false → AQ .non w := fun h => by unfold lNum at q; rw [h] at q; exact q
  refine iteB (fun h1 => ?_) (fun h1 => ?_)
  · walk_at "s"
    refine iteB (fun h2 => ?_) (fun h2 => ?_)
    · exact stop (by rw [eo, h1]; simp at h2; simp; omega)
    have h2' : decide (((figsOf w1).length : Int) ≤ 30) = true := by simpa using h2
    walk_at "s"
    refine lc_signsD [some (.va (.str z)), some (.va (.str w1)), some (.va (.str (figsOf w1))), none] rfl (fun c => .bl (decide (c ∈ FIGS.cps.toList))) (by omega) (noOw_dec rfl) (by decide) (fun c hc X hX => ?_) ?_
    · walk_at "s"
      have hm := fig_mem (c := c)
      refine iteB (fun h3 => ?_) (fun h3 => ?_)
      · walk_at "s"
        have h3' : (!decide ([c] < [48])) = true := h3
        rw [h3', Bool.true_and] at hm
        have e : (!decide ((Str.ofString "9").cps.toList < ({ cps := #[c] } : Str).cps.toList)) = decide (c ∈ FIGS.cps.toList) := hm
        rw [e]
        exact hX _ rfl
      · have h3' : (!decide ([c] < [48])) = false := h3
        rw [h3', Bool.false_and] at hm
        rw [hm]
        exact hX _ rfl
    · walk_at "s"
      refine iteB (fun h3 => ?_) (fun h3 => ?_)
      · walk_at "s"
        exact stop (by rw [eo, h1, h2']; simpa using h3)
      have ok : figsOk (figsOf w1) 30 = true := by rw [eo, h1, h2']; simpa using h3
      obtain ⟨hi, h640⟩ := number_reads ok
      have hlog := num_log ok
      walk_at "s"
      refine ab_int hi h640 ?_
      walk_at "s"
      unfold lNum at q
      rw [ok, Bool.true_and] at q
      refine iteB (fun h4 => ?_) (fun h4 => ?_)
      · walk_at "s"
        have h4' : decide (Str.ofString (toString (numVal w1)) = w1) = false := by simpa using h4
        rw [h4'] at q
        exact q
      · walk_at "s"
        have h4' : decide (Str.ofString (toString (numVal w1)) = w1) = true := by simpa using h4
        rw [h4'] at q
        refine ab_int hi h640 ?_
        walk_at "s"
        exact q
  · walk_at "s"
    exact stop (by rw [eo, h1]; rfl)
end
end RS
set_option Elab.async false
set_option linter.all false
set_option maxRecDepth 100000
set_option maxHeartbeats 4000000
set_option synthInstance.maxHeartbeats 400000
set_option synthInstance.maxSize 20000

namespace RS
open PySem L2
/-! steps by their heads -/
local macro_rules | `(tactic| walk_at "fr") => `(tactic| first
  | assumption
  | exact SqL.of (by assumption)
  | exact SqT.of (by assumption)
  | exact Or.inl (by assumption)
  | exact Or.inr (by assumption)
  | (refine Gr.get (by assumption) ?_ (by walk_at "nin"); walk_at "fr")
  | (refine Gr.tup (by assumption) _ _ ?_; walk_at "fr")
  | (refine SqL.of ?_; walk_at "fr1")
  | (refine SqT.of ?_; walk_at "fr1")
  | (refine Gr.sqL (by assumption) ?_ (by walk_at "nin"); walk_at "fr")
  | (refine Gr.sqT (by assumption) ?_ (by walk_at "nin"); walk_at "fr")
  | (refine Gr.rep0 (by assumption) ?_; walk_at "fr")
  | (refine Gr.reps0 (by assumption) ?_; walk_at "fr"))
local macro_rules | `(tactic| walk_at "fr1") => `(tactic| first
  | assumption
  | (refine Gr.tup (by assumption) _ _ ?_; walk_at "fr1")
  | (refine Gr.get (by assumption) ?_ (by walk_at "nin"); walk_at "fr1"))
local macro_rules | `(tactic| walk_at "nin") => `(tactic| first
  | exact nin_nil
  | assumption
  | (refine nin_one ?_; walk_at "ne"))
local macro_rules | `(tactic| walk_at "ne") => `(tactic| first
  | assumption
  | exact Ne.symm (by assumption)
  | exact ne_new (by assumption) (by assumption)
  | exact Ne.symm (ne_new (by assumption) (by assumption)))
local macro_rules | `(tactic| walk_at "sz") => `(tactic| first
  | assumption
  | exact rfl
  | omega
  | (simp only [List.length_cons, List.length_nil, List.length_append, List.length_map, CDiv, CDivN, CMul]; omega)
  | decide
  | (constructor <;> first | exact rfl | omega | assumption | (simp only [List.length_cons, List.length_nil, List.length_append, List.length_map]; omega) | decide))
local macro_rules | `(tactic| walk_at "i1") => `(tactic| first
  | ((with_reducible refine' isi_L_list ?vh ?_); (case vh => walk_at "fr"))
  | ((with_reducible refine' isi_T_list ?vh ?_); (case vh => walk_at "fr"))
  | ((with_reducible refine' isi_L_tuple ?vh ?_); (case vh => walk_at "fr"))
  | ((with_reducible refine' isi_T_tuple ?vh ?_); (case vh => walk_at "fr"))
  | ((with_reducible refine' isi_L_str ?vh ?_); (case vh => walk_at "fr"))
  | ((with_reducible refine' isi_T_str ?vh ?_); (case vh => walk_at "fr"))
  | ((with_reducible refine' isi_L_int ?vh ?_); (case vh => walk_at "fr"))
  | ((with_reducible refine' isi_T_int ?vh ?_); (case vh => walk_at "fr"))
  | ((with_reducible refine' isi_L_bool ?vh ?_); (case vh => walk_at "fr"))
  | ((with_reducible refine' isi_T_bool ?vh ?_); (case vh => walk_at "fr")))
local macro_rules | `(tactic| walk_at "s") => `(tactic| repeat (first
  | with_reducible refine Stp.h ?_
  | ((with_reducible refine szc ?_ ?_); walk_at "sz")
  | ((with_reducible refine' w_kTyL ?vh ?_); (case vh => walk_at "fr"))
  | ((with_reducible refine' w_lenL ?vh ?_); (case vh => walk_at "fr"))
  | ((with_reducible refine' w_lenT ?vh ?_); (case vh => walk_at "fr"))))
local macro_rules | `(tactic| walk_at "gr") => `(tactic| first
  | exact Gr.refl _ _
  | assumption
  | exact Gr.wide (by assumption)
  | (refine Gr.trans ?_ (by assumption); walk_at "gr")
  | (refine Gr.trans ?_ (Gr.wide (by assumption)); walk_at "gr"))
local macro_rules | `(tactic| walk_at "s2") => `(tactic| (with_reducible refine Stp.h ?_; with_reducible refine Stp.h ?_))

section
variable {P : Program} {w : World} {K : PySem.W.Frag} {mg : Str → Option Value} {base : Heap} {W : Type} {M : WM W}
def valAt (z : Str) : PD := match lValAt z with
  | none => .non
  | some (d, rest) => .tup [d, .str rest]
theorem str_at {z : Str} {k : Nat} (h : k < z.length) : ∃ c, atI z.cps.toList (k : Int) = some c ∧ (TL.tl z).drop k = c :: (TL.tl z).drop (k + 1) := by
  have hl : k < (TL.tl z).length := by rw [← TL.len_tl]; exact h
  exact ⟨(TL.tl z)[k], atI_nat' (List.getElem?_eq_getElem hl), List.drop_eq_getElem_cons hl⟩
theorem sign_dec {c : Nat} {s : Str} {k : Nat} (h : TL.tl s = [k]) : decide ((⟨#[c]⟩ : Str) = s) = decide (c = k) := by
  rw [Bool.eq_iff_iff, decide_eq_true_eq, decide_eq_true_eq]
  constructor
  · intro e; subst e; have : [c] = [k] := h; simpa using this
  · intro e; subst e; exact TL.ext_tl (by rw [h])
theorem parse_nil {acc : List Nat} : parseQ [] acc = none := by unfold parseQ; rfl
theorem parse_stop {r acc : List Nat} : parseQ (39 :: r) acc = some (acc, r) := by unfold parseQ; rw [if_pos rfl]
theorem parse_plain {c : Nat} {r acc : List Nat} (h1 : c ≠ 39) (h2 : c ≠ 92) : parseQ (c :: r) acc = parseQ r (acc ++ [c]) := by
  conv => lhs; unfold parseQ
  rw [if_neg h1, if_neg h2]
theorem parse_half {acc : List Nat} : parseQ [92] acc = none := by unfold parseQ; rw [if_neg (by decide), if_pos rfl]
theorem parse_stroke {d : Nat} {r acc : List Nat} : parseQ (92 :: d :: r) acc = if d = 39 ∨ d = 92 then parseQ r (acc ++ [d]) else none := by
  conv => lhs; unfold parseQ
  rw [if_neg (by decide), if_pos rfl]
theorem snoc_len (v : Str) (c : Nat) : (v ++ (⟨#[c]⟩ : Str)).length = v.length + 1 := by rw [TL.len_tl, TL.tl_append, TL.len_tl v]; simp [TL.tl]
theorem tl_cut_both (z : Str) (i j : Nat) : TL.tl (cutS z (some (i : Int)) (some (j : Int))) = ((TL.tl z).drop i).take (j - i) := by
  unfold cutS
  have e0 : HT.sIx z.length 0 (some (i : Int)) = min i z.length := HT.sIx_nat z.length 0 i
  have e1 : HT.sIx z.length z.length (some (j : Int)) = min j z.length := HT.sIx_nat z.length z.length j
  rw [e0, e1]
  show ((TL.tl z).drop _).take _ = _
  rw [TL.len_tl]
  by_cases h : i ≤ (TL.tl z).length
  · rw [Nat.min_eq_left h]
    by_cases h2 : j ≤ (TL.tl z).length
    · rw [Nat.min_eq_left h2]
    · rw [Nat.min_eq_right (by omega), List.take_of_length_le (by rw [List.length_drop]; omega), List.take_of_length_le (by rw [List.length_drop]; omega)]
  · rw [List.drop_eq_nil_of_le (show (TL.tl z).length ≤ i by omega), List.drop_eq_nil_of_le (show (TL.tl z).length ≤ min i (TL.tl z).length by omega)]; simp
theorem sc_law_value_at : FnScope ["_law_text", "_law_value_here", "_law_k", "_law_sign"] ["_law_text"] (defScope s_law_value_at) := ⟨rfl, rfl, rfl, by decide +kernel, rfl, by decide +kernel, by decide +kernel⟩
theorem okd_law_value_at (T : TX K mg) : FnOk P w K mg base CX0 3 T.d_law_value_at.a T.d_law_value_at.d ["_law_text"] (liftSp M K 1 (fnSp (fStr valAt))) := by
  refine T.d_law_value_at.F.ok sc_law_value_at (fun vs H Q E h => lift_len h) (fun cdv A outer s H vs Q E hr h => ?_)
  obtain ⟨ds, w, Zf, Zw, AQ, AX, hn, ha, L⟩ := h
  refine ⟨_, (pss_cons (ps_if (pt_cmpR (op_neK (K := K) rfl (hu64 hr)) (pe_slice (sl_anyK (K := K) rfl) (pv 0) po_none (po_some pe_int)) pe_str (nomark _))
    (pss_one (ps_ret (pe_call (okd_law_number_at (M := M) T) (hr.mono (by decide)) (by rfl) T.d_law_number_at.g T.d_law_number_at.F.kp T.d_law_number_at.b .nil pass0 (pa_cons (pv 0) pa_nil))))
    pss_nil)
  (pss_cons (ps_asg (pe_tup (pa_cons pe_str (pa_cons pe_int pa_nil))) (pg_tupK (K := K) (n := 2) rfl rfl (pgs_cons (pg_name (i := 1) sc_law_value_at.nd rfl (Or.inl rfl)) (pgs_cons (pg_name (i := 2) sc_law_value_at.nd rfl (Or.inl rfl)) pgs_nil))))
  (pss_cons (ps_while PassesOwn.never (PW.pt (pw_and (pt_cmpR op_lt (pv 2) (pe_callB (call_lenK (K := K) rfl) (by rfl) T.z_len bt_len (pa_cons (pv 0) pa_nil)) (nomark _)) (pw_and1 (pt_cmpR (op_neK (K := K) rfl (hu64 hr)) (pe_ix (ix_anyK (K := K) rfl) (pv 0) (pv 2) (fun _ _ => rfl)) pe_str (nomark _)))))
    (Evl.pss_cut (ps_if (pt_cmpR (op_eqK (K := K) rfl (hu64 hr)) (pe_ix (ix_anyK (K := K) rfl) (pv 0) (pv 2) (fun _ _ => rfl)) pe_str (nomark _))
    (pss_cons (ps_set (i := 2) sc_law_value_at.nd rfl (Or.inl rfl) (pe_op (op_addK (K := K) rfl) (pv 2) pe_int))
  (pss_one (ps_if (pt_cmpR (op_ninK (K := K) rfl) (pe_slice (sl_anyK (K := K) rfl) (pv 0) (po_some (pv 2)) (po_some (pe_op (op_addK (K := K) rfl) (pv 2) pe_int))) (pe_tup (pa_cons pe_str (pa_cons pe_str pa_nil))) (by rfl))
    (pss_one (ps_ret pe_non))
    pss_nil)))
    pss_nil)
  (pss_one (ps_par (i := 1) (j := 2) rfl sc_law_value_at.nd rfl rfl (by decide) rfl rfl (pa_cons (pe_op (op_addK (K := K) rfl) (pv 1) (pe_ix (ix_anyK (K := K) rfl) (pv 0) (pv 2) (fun _ _ => rfl))) (pa_cons (pe_op (op_addK (K := K) rfl) (pv 2) pe_int) pa_nil)) (by rfl)))))
  (pss_cons (ps_if (PW.pt (pw_or (pt_cmpR (op_eqK (K := K) rfl (hu64 hr)) (pv 2) (pe_callB (call_lenK (K := K) rfl) (by rfl) T.z_len bt_len (pa_cons (pv 0) pa_nil)) (nomark _)) (pw_or (pt_cmpR op_gt (pe_callB (call_lenK (K := K) rfl) (by rfl) T.z_len bt_len (pa_cons (pv 1) pa_nil)) pe_int (nomark _)) (pw_or1 (pt_not (pt_val (pe_callB (cr_allK (K := K) rfl rfl) (by rfl) T.z_all bt_all (pa_cons (pe_lc (own := [("_law_sign", 3)]) rfl sc_law_value_at.nd (pi_anyK (K := K) rfl (pv 1)) (blkOk_by (N := ["_law_text", "_law_value_here", "_law_k", "_law_sign"]) (sc := defScope s_law_value_at) (own := [("_law_sign", 3)]) (by decide +kernel)) (fun _ _ _ _ _ => (pg_name (i := 3) sc_law_value_at.nd rfl (Or.inl rfl))) (fun _ _ _ _ _ => pts_nil) (fun _ _ _ _ _ => (pe_chain op_leA op_leA pe_str (pv 3) pe_str))) pa_nil))))))))
    (pss_one (ps_ret pe_non))
    pss_nil)
  (pss_one (ps_ret (pe_tup (pa_cons (pv 1) (pa_cons (pe_slice (sl_anyK (K := K) rfl) (pv 0) (po_some (pe_op (op_addK (K := K) rfl) (pv 2) pe_int)) po_none) pa_nil))))))))), ?_⟩
  refine L.go ?_
  clear L hr
  obtain ⟨d, hd, q⟩ := ha
  obtain ⟨z, rfl, hz, rfl⟩ := fStr_open hd
  refine at_startE [some (.va (.str z)), none, none, none] rfl ?_
  walk_at "s"
  refine iteB (fun h1 => ?_) (fun h1 => ?_)
  · have h1' : ¬ cutS z none (some 1) = ("'" : Str) := by simpa using h1
    walk_at "s"
    have e : numAt z = valAt z := by
      unfold numAt valAt lValAt
      rw [if_neg h1', num_alike]
      cases numberIn (cutT z).1 with
      | none => rfl
      | some n =>
        simp only []
        have e : cutS z (some ((cutT z).1.length : Int)) none = (⟨((TL.tl z).drop (TL.tl (cutT z).1).length).toArray⟩ : Str) := TL.ext_tl (by rw [tl_cut_from, TL.len_tl])
        rw [e]
    rw [e]; exact q
  · have h1' : cutS z none (some 1) = ("'" : Str) := by simpa using h1
    obtain ⟨r, hr⟩ := quote_head h1'
    walk_at "s"
    refine while_D (fun m e w' => w' = w ∧ ∃ (v : Str) (k : Nat), e = [some (.va (.str z)), some (.va (.str v)), some (.va (.int (k : Int))), none] ∧ m = z.length - k ∧ 1 ≤ k ∧ k ≤ z.length ∧ v.length ≤ k ∧ parseQ ((TL.tl z).drop k) (TL.tl v) = parseQ ((TL.tl z).drop 1) []) (z.length - 1) ?_ ?_
    · refine ⟨rfl, "", 1, rfl, rfl, Nat.le_refl _, ?_, by decide, by rw [tl_empty]⟩
      rw [TL.len_tl, hr]; simp
    rintro m e w' ⟨rfl, v, k, rfl, rfl, hk1, hk2, hvk, inv⟩
    walk_at "s"
    have stop : parseQ ((TL.tl z).drop 1) [] = none → AQ .non w' := fun h => by
      unfold valAt lValAt at q; rw [if_pos h1', h] at q; exact q
    have fin : ∀ (w2 : Str) (k2 : Nat), parseQ ((TL.tl z).drop 1) [] = some (TL.tl w2, (TL.tl z).drop (k2 + 1)) → (decide (40 < (w2.length : Int)) || !isVal w2) = true → AQ .non w' := fun w2 k2 h hb => by
      unfold valAt lValAt at q; rw [if_pos h1', h] at q
      simp only [] at q
      have e : (⟨(TL.tl w2).toArray⟩ : Str) = w2 := TL.ext_tl rfl
      rw [e, ← TL.len_tl, if_pos (by rw [← hb]; congr 1; rw [Bool.eq_iff_iff]; simp; omega)] at q
      exact q
    refine iteB (fun h2 => ?_) (fun h2 => ?_)
    · have hk : k < z.length := by simpa using h2
      obtain ⟨c, hc, hdr⟩ := str_at hk
      rw [hdr] at inv
      walk_at "s"
      refine ix_S (by omega) hc ?_
      walk_at "s"
      rw [sign_dec (k := 39) (by decide +kernel)]
      refine iteB (fun h3 => ?_) (fun h3 => ?_)
      · have hc39 : c ≠ 39 := by simpa using h3
        refine ⟨fun e w => w = w' ∧ ∃ (k2 c2 : Nat), e = [some (.va (.str z)), some (.va (.str v)), some (.va (.int (k2 : Int))), none] ∧ k ≤ k2 ∧ k2 < z.length ∧ atI z.cps.toList (k2 : Int) = some c2 ∧ k2 ≤ k + 1 ∧ parseQ ((TL.tl z).drop (k2 + 1)) (TL.tl v ++ [c2]) = parseQ ((TL.tl z).drop 1) [], ?_, ?_⟩
        · walk_at "s"
          refine ix_S (by omega) hc ?_
          walk_at "s"
          rw [sign_dec (k := 92) (by decide +kernel)]
          refine iteB (fun h4 => ?_) (fun h4 => ?_)
          · have hc92 : c = 92 := by simpa using h4
            subst hc92
            walk_at "s"
            have ecut : cutS z (some ((k : Int) + 1)) (some ((k : Int) + 1 + 1)) = ⟨(((TL.tl z).drop (k + 1)).take 1).toArray⟩ := TL.ext_tl (by
              rw [show (k : Int) + 1 = ((k + 1 : Nat) : Int) by omega, show ((k + 1 : Nat) : Int) + 1 = ((k + 2 : Nat) : Int) by omega, tl_cut_both]
              rw [show k + 2 - (k + 1) = 1 by omega])
            rw [ecut]
            cases hr2 : (TL.tl z).drop (k + 1) with
            | nil =>
              rw [hr2, parse_half] at inv
              rw [decide_eq_false (by decide +kernel)]
              walk_at "s"
              exact stop inv.symm
            | cons d r2 =>
              rw [hr2, parse_stroke] at inv
              have hk1' : k + 1 < z.length := by
                have := congrArg List.length hr2
                rw [List.length_drop, ← TL.len_tl] at this; simp at this; omega
              obtain ⟨d', hd', hdr'⟩ := str_at hk1'
              rw [hr2] at hdr'
              injection hdr' with hdd hrr
              subst hdd
              have em : decide ((⟨((d :: r2).take 1).toArray⟩ : Str) ∈ [Str.ofString "'", Str.ofString "\\"]) = decide (d = 39 ∨ d = 92) := by
                have e1 := sign_dec (c := d) (s := Str.ofString "'") (k := 39) (by decide +kernel)
                have e2 := sign_dec (c := d) (s := Str.ofString "\\") (k := 92) (by decide +kernel)
                rw [Bool.eq_iff_iff, decide_eq_true_eq, decide_eq_true_eq] at e1 e2
                rw [Bool.eq_iff_iff, decide_eq_true_eq, decide_eq_true_eq]
                simp only [List.mem_cons, List.not_mem_nil, or_false]
                exact or_congr e1 e2
              rw [em]
              by_cases hdq : d = 39 ∨ d = 92
              · rw [decide_eq_true hdq]
                rw [if_pos hdq] at inv
                walk_at "s"
                refine ⟨rfl, k + 1, d, by rw [show ((k + 1 : Nat) : Int) = (k : Int) + 1 by omega], Nat.le_succ _, hk1', hd', Nat.le_refl _, ?_⟩
                rw [← hrr]; exact inv
              · rw [decide_eq_false hdq]
                rw [if_neg hdq] at inv
                walk_at "s"
                exact stop inv.symm
          · have hc92 : c ≠ 92 := by simpa using h4
            walk_at "s"
            refine ⟨rfl, k, c, rfl, Nat.le_refl _, hk, hc, Nat.le_succ _, ?_⟩
            rw [← inv]
            exact (parse_plain hc39 hc92).symm
        · rintro e w ⟨rfl, k2, c2, rfl, hk2a, hk2b, hc2, hk2c, inv2⟩
          walk_at "s"
          refine ix_S (by omega) hc2 ?_
          walk_at "s"
          have l1 : (⟨#[c2]⟩ : Str).length = 1 := rfl
          walk_at "s"
          refine ⟨z.length - (k2 + 1), by omega, rfl, v ++ ⟨#[c2]⟩, k2 + 1, by rw [show ((k2 + 1 : Nat) : Int) = (k2 : Int) + 1 by omega], rfl, by omega, by omega, by rw [snoc_len]; omega, ?_⟩
          rw [TL.tl_append]; exact inv2
      · have hc39 : c = 39 := by simpa using h3
        subst hc39
        rw [parse_stop] at inv
        walk_at "s"
        rw [decide_eq_false (show ¬ ((k : Int) = (z.length : Int)) by omega)]
        walk_at "s"
        refine iteB (fun h5 => ?_) (fun h5 => ?_)
        · walk_at "s"
          exact fin v k inv.symm (by rw [show decide (40 < (v.length : Int)) = true from h5]; rfl)
        · walk_at "s"
          refine lc_signsD [some (.va (.str z)), some (.va (.str v)), some (.va (.int (k : Int))), none] rfl (fun c => .bl (!decide ([c] < [32]) && !decide ([126] < [c]))) (by omega) (noOw_dec rfl) (by decide) (fun c hc X hX => ?_) ?_
          · walk_at "s"
            refine iteB (fun h6 => ?_) (fun h6 => ?_)
            · walk_at "s"
              have h6' : (!decide ([c] < [32])) = true := h6
              have e : (!decide ((Str.ofString "~").cps.toList < ({ cps := #[c] } : Str).cps.toList)) = (!decide ([c] < [32]) && !decide ([126] < [c])) := by rw [h6']; rfl
              rw [e]
              exact hX _ rfl
            · have h6' : (!decide ([c] < [32])) = false := h6
              have := hX [some (.va (.str z)), some (.va (.str v)), some (.va (.int (k : Int))), some (.va (.str ⟨#[c]⟩))] rfl
              simp only [h6', Bool.false_and] at this
              exact this
          · walk_at "s"
            have ev : (v.cps.toList.map fun c => (!decide ([c] < [32]) && !decide ([126] < [c]))).all id = isVal v := rfl
            rw [ev]
            cases hv : isVal v with
            | false =>
              walk_at "s"
              exact fin v k inv.symm (by rw [hv]; simp)
            | true =>
              walk_at "s"
              have e2 : cutS z (some ((k : Int) + 1)) none = (⟨((TL.tl z).drop (k + 1)).toArray⟩ : Str) := TL.ext_tl (by rw [show (k : Int) + 1 = ((k + 1 : Nat) : Int) by omega, tl_cut_from])
              rw [e2]
              unfold valAt lValAt at q
              rw [if_pos h1', ← inv] at q
              have e : (⟨(TL.tl v).toArray⟩ : Str) = v := TL.ext_tl rfl
              simp only [e, hv] at q
              rw [if_neg (by rw [← TL.len_tl]; have : decide (40 < (v.length : Int)) = false := h5; simp at this; simp; omega)] at q
              exact q
    · have hk : k = z.length := by have : ¬ ((k : Int) < (z.length : Int)) := by simpa using h2
                                   omega
      subst hk
      have hnil : (TL.tl z).drop z.length = [] := by rw [TL.len_tl]; simp
      rw [hnil, parse_nil] at inv
      walk_at "s"
      rw [decide_eq_true rfl]
      walk_at "s"
      exact stop inv.symm
end
end RS
set_option Elab.async false
set_option linter.all false
set_option maxRecDepth 100000
set_option maxHeartbeats 4000000
set_option synthInstance.maxHeartbeats 400000
set_option synthInstance.maxSize 20000

namespace RS
open PySem L2
/-! steps by their heads -/
local macro_rules | `(tactic| walk_at "fr") => `(tactic| first
  | assumption
  | exact SqL.of (by assumption)
  | exact SqT.of (by assumption)
  | exact Or.inl (by assumption)
  | exact Or.inr (by assumption)
  | (refine Gr.get (by assumption) ?_ (by walk_at "nin"); walk_at "fr")
  | (refine Gr.tup (by assumption) _ _ ?_; walk_at "fr")
  | (refine SqL.of ?_; walk_at "fr1")
  | (refine SqT.of ?_; walk_at "fr1")
  | (refine Gr.sqL (by assumption) ?_ (by walk_at "nin"); walk_at "fr")
  | (refine Gr.sqT (by assumption) ?_ (by walk_at "nin"); walk_at "fr")
  | (refine Gr.rep0 (by assumption) ?_; walk_at "fr")
  | (refine Gr.reps0 (by assumption) ?_; walk_at "fr"))
local macro_rules | `(tactic| walk_at "fr1") => `(tactic| first
  | assumption
  | (refine Gr.tup (by assumption) _ _ ?_; walk_at "fr1")
  | (refine Gr.get (by assumption) ?_ (by walk_at "nin"); walk_at "fr1"))
local macro_rules | `(tactic| walk_at "nin") => `(tactic| first
  | exact nin_nil
  | assumption
  | (refine nin_one ?_; walk_at "ne"))
local macro_rules | `(tactic| walk_at "ne") => `(tactic| first
  | assumption
  | exact Ne.symm (by assumption)
  | exact ne_new (by assumption) (by assumption)
  | exact Ne.symm (ne_new (by assumption) (by assumption)))
local macro_rules | `(tactic| walk_at "sz") => `(tactic| first
  | assumption
  | exact rfl
  | omega
  | (simp only [List.length_cons, List.length_nil, List.length_append, List.length_map, CDiv, CDivN, CMul]; omega)
  | decide
  | (constructor <;> first | exact rfl | omega | assumption | (simp only [List.length_cons, List.length_nil, List.length_append, List.length_map]; omega) | decide))
local macro_rules | `(tactic| walk_at "i1") => `(tactic| first
  | ((with_reducible refine' isi_L_list ?vh ?_); (case vh => walk_at "fr"))
  | ((with_reducible refine' isi_T_list ?vh ?_); (case vh => walk_at "fr"))
  | ((with_reducible refine' isi_L_tuple ?vh ?_); (case vh => walk_at "fr"))
  | ((with_reducible refine' isi_T_tuple ?vh ?_); (case vh => walk_at "fr"))
  | ((with_reducible refine' isi_L_str ?vh ?_); (case vh => walk_at "fr"))
  | ((with_reducible refine' isi_T_str ?vh ?_); (case vh => walk_at "fr"))
  | ((with_reducible refine' isi_L_int ?vh ?_); (case vh => walk_at "fr"))
  | ((with_reducible refine' isi_T_int ?vh ?_); (case vh => walk_at "fr"))
  | ((with_reducible refine' isi_L_bool ?vh ?_); (case vh => walk_at "fr"))
  | ((with_reducible refine' isi_T_bool ?vh ?_); (case vh => walk_at "fr")))
local macro_rules | `(tactic| walk_at "s") => `(tactic| repeat (first
  | with_reducible refine Stp.h ?_
  | ((with_reducible refine szc ?_ ?_); walk_at "sz")
  | ((with_reducible refine' w_kTyL ?vh ?_); (case vh => walk_at "fr"))
  | ((with_reducible refine' w_lenL ?vh ?_); (case vh => walk_at "fr"))
  | ((with_reducible refine' w_lenT ?vh ?_); (case vh => walk_at "fr"))))
local macro_rules | `(tactic| walk_at "gr") => `(tactic| first
  | exact Gr.refl _ _
  | assumption
  | exact Gr.wide (by assumption)
  | (refine Gr.trans ?_ (by assumption); walk_at "gr")
  | (refine Gr.trans ?_ (Gr.wide (by assumption)); walk_at "gr"))
local macro_rules | `(tactic| walk_at "s2") => `(tactic| (with_reducible refine Stp.h ?_; with_reducible refine Stp.h ?_))

section
variable {P : Program} {w : World} {K : PySem.W.Frag} {mg : Str → Option Value} {base : Heap}
variable {W : Type} {M : WM W}
theorem inv_strs : ∀ {ss : List Str} {s : Str}, decide (s ∈ ss) = inV (.str s) (ss.map V.str) := fun {ss s} => by
  rw [← inD_str]; unfold inD; rw [List.map_map]; rfl
theorem in_alone {s : Str} : decide (s ∈ [("begin" : Str), "late", "pass"]) = inV (.str s) alone := by
  have e : alone = (["begin", "late", "pass"] : List Str).map V.str := rfl
  rw [e, inv_strs]
theorem in_withName {s : Str} : decide (s ∈ [("look" : Str), "back", "copy", "in"]) = inV (.str s) withName := by
  have e : withName = (["look", "back", "copy", "in"] : List Str).map V.str := rfl
  rw [e, inv_strs]
theorem in_blocks {s : Str} : decide (s ∈ [("begin" : Str), "late", "in"]) = inV (.str s) blocks := by
  have e : blocks = (["begin", "late", "in"] : List Str).map V.str := rfl
  rw [e, inv_strs]
theorem cutT_len2 {z s : Str} (h : (cutT z).2 = some s) : s.length ≤ z.length := by
  rcases text_forms z with hb | ⟨a, b, rfl, hb⟩
  · rw [cutT_none hb] at h; cases h
  · rw [cutT_app hb] at h; cases h; rw [TL.len_tl, TL.len_tl (a ++ (" " : Str) ++ s), TL.tl_append, TL.tl_append]; simp; omega
theorem sc_law_step : FnScope ["_law_row", "_law_word", "_law_rest", "_law_name", "_law_found"] ["_law_row"] (defScope s_law_step) := ⟨rfl, rfl, rfl, by decide +kernel, rfl, by decide +kernel, by decide +kernel⟩
theorem okd_law_step (T : TX K mg) : FnOk P w K mg base CX0 4 T.d_law_step.a T.d_law_step.d ["_law_row"] (liftSp M K 1 (fnSp (fStr lStep))) := by
  refine T.d_law_step.F.ok sc_law_step (fun vs H Q E h => lift_len h) (fun cdv A outer s H vs Q E hr h => ?_)
  obtain ⟨ds, w, Zf, Zw, AQ, AX, hn, ha, L⟩ := h
  refine ⟨_, (pss_cons (ps_asg (pe_call (okd_law_cut (M := M) T) (hr.mono (by decide)) (by rfl) T.d_law_cut.g T.d_law_cut.F.kp T.d_law_cut.b .nil pass0 (pa_cons (pv 0) pa_nil)) (pg_tupK (K := K) (n := 2) rfl rfl (pgs_cons (pg_name (i := 1) sc_law_step.nd rfl (Or.inl rfl)) (pgs_cons (pg_name (i := 2) sc_law_step.nd rfl (Or.inl rfl)) pgs_nil))))
  (pss_cons (ps_if (pt_cmpR (op_inK (K := K) rfl) (pv 0) (pe_tup (pa_cons pe_str (pa_cons pe_str (pa_cons pe_str pa_nil)))) (by rfl))
    (pss_one (ps_ret (pe_tup (pa_cons (pv 0) pa_nil))))
    pss_nil)
  (pss_cons (ps_if (PW.pt (pw_and (pt_cmpR (op_inK (K := K) rfl) (pv 1) (pe_tup (pa_cons pe_str (pa_cons pe_str (pa_cons pe_str (pa_cons pe_str pa_nil))))) (by rfl)) (pw_and1 (pt_val (pe_call (okd_law_is_name (M := M) T) (hr.mono (by decide)) (by rfl) T.d_law_is_name.g T.d_law_is_name.F.kp T.d_law_is_name.b .nil pass0 (pa_cons (pv 2) pa_nil))))))
    (pss_one (ps_ret (pe_tup (pa_cons (pv 1) (pa_cons (pv 2) pa_nil)))))
    pss_nil)
  (pss_cons (ps_if (PW.pt (pw_or (pt_cmpR (op_neK (K := K) rfl (hu64 hr)) (pv 1) pe_str (nomark _)) (pw_or1 (pt_cmp (pc_isN (pv 2)) rfl))))
    (pss_one (ps_ret pe_non))
    pss_nil)
  (pss_cons (ps_asg (pe_call (okd_law_cut (M := M) T) (hr.mono (by decide)) (by rfl) T.d_law_cut.g T.d_law_cut.F.kp T.d_law_cut.b .nil pass0 (pa_cons (pv 2) pa_nil)) (pg_tupK (K := K) (n := 2) rfl rfl (pgs_cons (pg_name (i := 3) sc_law_step.nd rfl (Or.inl rfl)) (pgs_cons (pg_name (i := 2) sc_law_step.nd rfl (Or.inl rfl)) pgs_nil))))
  (pss_cons (ps_set (i := 4) sc_law_step.nd rfl (Or.inl rfl) (pe_ifExp (PW.pt (pw_and (pt_val (pe_call (okd_law_is_name (M := M) T) (hr.mono (by decide)) (by rfl) T.d_law_is_name.g T.d_law_is_name.F.kp T.d_law_is_name.b .nil pass0 (pa_cons (pv 3) pa_nil))) (pw_and1 (pt_cmp (pc_notN (pv 2)) rfl)))) (pe_call (okd_law_value_at (M := M) T) (hr.mono (by decide)) (by rfl) T.d_law_value_at.g T.d_law_value_at.F.kp T.d_law_value_at.b .nil pass0 (pa_cons (pv 2) pa_nil)) pe_non))
  (pss_cons (ps_if (PW.pt (pw_or (pt_cmp (pc_isN (pv 4)) rfl) (pw_or (pt_cmpR (op_neK (K := K) rfl (hu64 hr)) (pe_slice (sl_anyK (K := K) rfl) (pe_ix (ix_anyK (K := K) rfl) (pv 4) pe_int (fun _ _ => rfl)) po_none (po_some pe_int)) pe_str (nomark _)) (pw_or1 (pt_not (pt_val (pe_call (okd_law_is_name (M := M) T) (hr.mono (by decide)) (by rfl) T.d_law_is_name.g T.d_law_is_name.F.kp T.d_law_is_name.b .nil pass0 (pa_cons (pe_slice (sl_anyK (K := K) rfl) (pe_ix (ix_anyK (K := K) rfl) (pv 4) pe_int (fun _ _ => rfl)) (po_some pe_int) po_none) pa_nil))))))))
    (pss_one (ps_ret pe_non))
    pss_nil)
  (pss_one (ps_ret (pe_tup (pa_cons pe_str (pa_cons (pv 3) (pa_cons (pe_ix (ix_anyK (K := K) rfl) (pv 4) pe_int (fun _ _ => rfl)) (pa_cons (pe_slice (sl_anyK (K := K) rfl) (pe_ix (ix_anyK (K := K) rfl) (pv 4) pe_int (fun _ _ => rfl)) (po_some pe_int) po_none) pa_nil)))))))))))))), ?_⟩
  refine L.go ?_
  clear L hr
  obtain ⟨d, hd, q⟩ := ha
  obtain ⟨z, rfl, hz, rfl⟩ := fStr_open hd
  have hl := cutT_len z
  refine at_startE [some (.va (.str z)), none, none, none, none] rfl ?_
  walk_at "s"
  have ul : lStep z = if inV (.str z) alone = true then .tup [.str z]
    else if inV (.str (cutT z).1) withName = true ∧ lName (cutT z).2 = true then .tup [.str (cutT z).1, .str ((cutT z).2.getD "")]
    else if (cutT z).1 = ("set" : Str) then (match (cutT z).2 with | none => .non | some rest => lSet rest) else .non := rfl
  have hl2 : ∀ s, (cutT z).2 = some s → s.length ≤ z.length := fun s h => cutT_len2 h
  generalize (cutT z).1 = w1 at *
  generalize (cutT z).2 = o at *
  rw [in_alone]
  refine iteB (fun h1 => ?_) (fun h1 => ?_)
  · rw [ul, if_pos h1] at q
    walk_at "s"
    exact q
  rw [ul, if_neg (by rw [h1]; exact Bool.false_ne_true)] at q
  walk_at "s"
  rw [in_withName]
  cases o with
  | none =>
    rw [show optS none = PD.non from rfl]
    rw [if_neg (fun h => Bool.false_ne_true h.2)] at q
    have q' : AQ .non w := by
      split at q <;> exact q
    refine iteB (fun h2 => ?_) (fun h2 => ?_)
    · walk_at "s"
      rw [show lName none = false from rfl]
      walk_at "s"
      refine iteB (fun h3 => ?_) (fun h3 => ?_) <;> (walk_at "s"; exact q')
    · walk_at "s"
      refine iteB (fun h3 => ?_) (fun h3 => ?_) <;> (walk_at "s"; exact q')
  | some rest =>
    have hr := hl2 rest rfl
    rw [show optS (some rest) = PD.str rest from rfl]
    have key : inV (.str w1) withName = true → isName rest = true → AQ (.tup [.str w1, .str rest]) w := fun h h' => by rw [if_pos ⟨h, h'⟩] at q; exact q
    have key2 : ¬ (inV (.str w1) withName = true ∧ isName rest = true) → AQ (if w1 = ("set" : Str) then lSet rest else .non) w := fun h => by rw [if_neg (show ¬ (inV (.str w1) withName = true ∧ lName (some rest) = true) from h)] at q; exact q
    clear q ul
    refine ifa_join (inV (.str w1) withName) (isName rest) (fun Q h => ?_) (fun h1 h2 => ?_) (fun h => ?_)
    · walk_at "s"; exact h
    · walk_at "s"; exact key h1 h2
    replace key2 := key2 h
    walk_at "s"
    refine iteB (fun h3 => ?_) (fun h3 => ?_)
    · walk_at "s"
      rw [if_neg (by simpa using h3)] at key2
      exact key2
    rw [if_pos (by simpa using h3)] at key2
    have us : lSet rest = match (cutT rest).2 with
      | none => .non
      | some more => if isName (cutT rest).1 = true then (match lSetTail more with
        | none => .non
        | some (d, s) => .tup [.str "set", .str (cutT rest).1, d, .str s]) else .non := rfl
    have hm1 := cutT_len rest
    have hm2 : ∀ s, (cutT rest).2 = some s → s.length ≤ rest.length := fun s h => cutT_len2 h
    walk_at "s"
    generalize (cutT rest).1 = w2 at *
    generalize (cutT rest).2 = o2 at *
    rw [us] at key2
    walk_at "s"
    cases hw2 : isName w2 with
    | false =>
      rw [hw2] at key2
      have key3 : AQ .non w := by cases o2 <;> exact key2
      rw [show lName (some w2) = false from hw2]
      walk_at "s"
      exact key3
    | true =>
      rw [show lName (some w2) = true from hw2]
      rw [hw2] at key2
      walk_at "s"
      cases o2 with
      | none =>
        rw [show isN (optS none) = true from rfl]
        walk_at "s"
        exact key2
      | some more =>
        have hmore := hm2 more rfl
        rw [show isN (optS (some more)) = false from rfl, show optS (some more) = PD.str more from rfl]
        simp only [if_true] at key2
        unfold lSetTail at key2
        walk_at "s"
        unfold valAt
        cases hv : lValAt more with
        | none =>
          rw [hv] at key2
          walk_at "s"
          exact key2
        | some p =>
          obtain ⟨d, r⟩ := p
          rw [hv] at key2
          simp only [] at key2 ⊢
          have hrl : r.length ≤ 1000000 := by
            obtain ⟨p, hp⟩ := lval_suffix hv
            have := congrArg List.length hp
            rw [List.length_append, ← TL.len_tl, ← TL.len_tl] at this; omega
          walk_at "s"
          have c1 : TL.tl (cutS r none (some 1)) = (TL.tl r).take 1 := tl_cut_to r 1
          have c2 : TL.tl (cutS r (some 1) none) = (TL.tl r).drop 1 := tl_cut_from r 1
          have cl := cutS_len r (some 1) none
          generalize cutS r none (some 1) = r1 at *
          cases hr : TL.tl r with
          | nil =>
            rw [hr] at key2 c1 c2
            rw [decide_eq_false (fun e => by subst e; exact absurd c1 (by decide +kernel))]
            walk_at "s"
            exact key2
          | cons c s =>
            rw [hr] at key2 c1 c2
            simp only [List.take_succ_cons, List.take_zero, List.drop_succ_cons, List.drop_zero] at c1 c2
            have e2 : (⟨s.toArray⟩ : Str) = cutS r (some 1) none := TL.ext_tl (by rw [c2])
            simp only [e2] at key2
            have e1 : decide (r1 = Str.ofString " ") = decide (c = 32) := by
              have : r1 = ⟨#[c]⟩ := TL.ext_tl (by rw [c1])
              rw [this]; exact sign_dec (by decide +kernel)
            rw [e1]
            by_cases hc : c = 32
            · rw [decide_eq_true hc]
              rw [if_pos hc] at key2
              walk_at "s"
              cases hn2 : isName (cutS r (some 1) none) with
              | true =>
                rw [hn2] at key2
                rw [show lName (some (cutS r (some 1) none)) = true from hn2]
                walk_at "s"
                exact key2
              | false =>
                rw [hn2] at key2
                rw [show lName (some (cutS r (some 1) none)) = false from hn2]
                walk_at "s"
                exact key2
            · rw [decide_eq_false hc]
              rw [if_neg hc] at key2
              walk_at "s"
              exact key2
theorem sc_law_setting : FnScope ["_law_row", "_law_word", "_law_rest", "_law_name", "_law_found"] ["_law_row"] (defScope s_law_setting) := ⟨rfl, rfl, rfl, by decide +kernel, rfl, by decide +kernel, by decide +kernel⟩
theorem okd_law_setting (T : TX K mg) : FnOk P w K mg base CX0 4 T.d_law_setting.a T.d_law_setting.d ["_law_row"] (liftSp M K 1 (fnSp (fStr lSetting))) := by
  refine T.d_law_setting.F.ok sc_law_setting (fun vs H Q E h => lift_len h) (fun cdv A outer s H vs Q E hr h => ?_)
  obtain ⟨ds, w, Zf, Zw, AQ, AX, hn, ha, L⟩ := h
  refine ⟨_, (pss_cons (ps_asg (pe_call (okd_law_cut (M := M) T) (hr.mono (by decide)) (by rfl) T.d_law_cut.g T.d_law_cut.F.kp T.d_law_cut.b .nil pass0 (pa_cons (pv 0) pa_nil)) (pg_tupK (K := K) (n := 2) rfl rfl (pgs_cons (pg_name (i := 1) sc_law_setting.nd rfl (Or.inl rfl)) (pgs_cons (pg_name (i := 2) sc_law_setting.nd rfl (Or.inl rfl)) pgs_nil))))
  (pss_cons (ps_if (PW.pt (pw_or (pt_cmpR (op_neK (K := K) rfl (hu64 hr)) (pv 1) pe_str (nomark _)) (pw_or1 (pt_cmp (pc_isN (pv 2)) rfl))))
    (pss_one (ps_ret pe_non))
    pss_nil)
  (pss_cons (ps_asg (pe_call (okd_law_cut (M := M) T) (hr.mono (by decide)) (by rfl) T.d_law_cut.g T.d_law_cut.F.kp T.d_law_cut.b .nil pass0 (pa_cons (pv 2) pa_nil)) (pg_tupK (K := K) (n := 2) rfl rfl (pgs_cons (pg_name (i := 3) sc_law_setting.nd rfl (Or.inl rfl)) (pgs_cons (pg_name (i := 2) sc_law_setting.nd rfl (Or.inl rfl)) pgs_nil))))
  (pss_cons (ps_if (pt_cmp (pc_isN (pv 2)) rfl)
    (pss_one (ps_ret (pe_ifExp (pt_val (pe_call (okd_law_is_name (M := M) T) (hr.mono (by decide)) (by rfl) T.d_law_is_name.g T.d_law_is_name.F.kp T.d_law_is_name.b .nil pass0 (pa_cons (pv 3) pa_nil))) (pe_tup (pa_cons (pv 3) (pa_cons pe_non pa_nil))) pe_non)))
    pss_nil)
  (pss_cons (ps_set (i := 4) sc_law_setting.nd rfl (Or.inl rfl) (pe_call (okd_law_value_at (M := M) T) (hr.mono (by decide)) (by rfl) T.d_law_value_at.g T.d_law_value_at.F.kp T.d_law_value_at.b .nil pass0 (pa_cons (pv 2) pa_nil)))
  (pss_one (ps_ret (pe_ifExp (PW.pt (pw_and (pt_val (pe_call (okd_law_is_name (M := M) T) (hr.mono (by decide)) (by rfl) T.d_law_is_name.g T.d_law_is_name.F.kp T.d_law_is_name.b .nil pass0 (pa_cons (pv 3) pa_nil))) (pw_and (pt_cmp (pc_notN (pv 4)) rfl) (pw_and1 (pt_cmpR (op_eqK (K := K) rfl (hu64 hr)) (pe_ix (ix_anyK (K := K) rfl) (pv 4) pe_int (fun _ _ => rfl)) pe_str (nomark _)))))) (pe_tup (pa_cons (pv 3) (pa_cons (pe_ix (ix_anyK (K := K) rfl) (pv 4) pe_int (fun _ _ => rfl)) pa_nil))) pe_non)))))))), ?_⟩
  refine L.go ?_
  clear L hr
  obtain ⟨d, hd, q⟩ := ha
  obtain ⟨z, rfl, hz, rfl⟩ := fStr_open hd
  have hl := cutT_len z
  have hl2 : ∀ s, (cutT z).2 = some s → s.length ≤ z.length := fun s h => cutT_len2 h
  refine at_startE [some (.va (.str z)), none, none, none, none] rfl ?_
  walk_at "s"
  have ul : lSetting z = if (cutT z).1 = ("setting" : Str) then (match (cutT z).2 with
  | none => .non
  | some rest => match (cutT rest).2 with
    | none => if isName (cutT rest).1 = true then .tup [.str (cutT rest).1, .non] else .non
    | some w => if isName (cutT rest).1 = true then (match wholeL (lValAt w) with | .non => .non | v => .tup [.str (cutT rest).1, v]) else .non) else .non := rfl
  generalize (cutT z).1 = w1 at *
  generalize (cutT z).2 = o at *
  rw [ul] at q
  refine iteB (fun h1 => ?_) (fun h1 => ?_)
  · walk_at "s"
    rw [if_neg (by simpa using h1)] at q
    exact q
  rw [if_pos (by simpa using h1)] at q
  walk_at "s"
  cases o with
  | none =>
    rw [show isN (optS none) = true from rfl]
    walk_at "s"
    exact q
  | some rest =>
    have hr := hl2 rest rfl
    rw [show isN (optS (some rest)) = false from rfl, show optS (some rest) = PD.str rest from rfl]
    have hm1 := cutT_len rest
    have hm2 : ∀ s, (cutT rest).2 = some s → s.length ≤ rest.length := fun s h => cutT_len2 h
    walk_at "s"
    simp only [] at q
    generalize (cutT rest).1 = w2 at *
    generalize (cutT rest).2 = o2 at *
    cases o2 with
    | none =>
      rw [show isN (optS none) = true from rfl]
      walk_at "s"
      cases hw2 : isName w2 with
      | true => rw [hw2] at q; rw [show lName (some w2) = true from hw2]; walk_at "s"; exact q
      | false => rw [hw2] at q; rw [show lName (some w2) = false from hw2]; walk_at "s"; exact q
    | some more =>
      have hmore := hm2 more rfl
      rw [show isN (optS (some more)) = false from rfl, show optS (some more) = PD.str more from rfl]
      simp only [] at q
      walk_at "s"
      cases hw2 : isName w2 with
      | false => rw [hw2] at q; rw [show lName (some w2) = false from hw2]; walk_at "s"; exact q
      | true =>
        rw [hw2] at q
        rw [show lName (some w2) = true from hw2]
        simp only [if_true] at q
        unfold wholeL at q
        walk_at "s"
        unfold valAt
        cases hv : lValAt more with
        | none => rw [hv] at q; walk_at "s"; exact q
        | some p =>
          obtain ⟨d, r⟩ := p
          rw [hv] at q
          simp only [] at q ⊢
          have hdn : isN d = false := by
            unfold lValAt at hv
            split at hv
            · split at hv
              · cases hv
              · split at hv
                · cases hv
                · cases hv; rfl
            · split at hv
              · cases hv
              · cases hv; rfl
          walk_at "s"
          by_cases hr : TL.tl r = []
          · rw [if_pos hr] at q
            rw [decide_eq_true (show r = Str.ofString "" from TL.ext_tl (by rw [hr]; decide +kernel))]
            walk_at "s"
            cases d <;> first | exact absurd hdn (by decide) | exact q
          · rw [if_neg hr] at q
            rw [decide_eq_false (fun e => hr (by rw [e]; decide +kernel))]
            walk_at "s"
            exact q
theorem cutD_one {a : PD} {r : List PD} : cutD (a :: r) (some 1) none = r := by
  unfold cutD
  have e0 : HT.sIx (a :: r).length 0 (some ((1 : Nat) : Int)) = min 1 (a :: r).length := HT.sIx_nat _ 0 1
  rw [show (some (1 : Int)) = some ((1 : Nat) : Int) from rfl, e0, HT.sIx_none]
  rw [List.length_cons, Nat.min_eq_left (by omega)]
  simp
theorem allSomeN : ∀ {xs : List (Option Int)}, none ∈ xs → allSome xs = none
  | [], h => nomatch h
  | none :: r, _ => rfl
  | some i :: r, h => by
    rcases List.mem_cons.mp h with h | h
    · cases h
    · unfold allSome; rw [allSomeN h]; rfl
theorem allSomeG : ∀ {ws : List Str}, (∀ x ∈ ws, pickIn x ≠ none) → allSome (ws.map pickIn) = some (ws.map fun x => ((NumText.digitsVal x.cps.toList : Nat) : Int))
  | [], _ => rfl
  | x :: r, h => by
    have h1 := h x List.mem_cons_self
    rw [List.map_cons, List.map_cons]
    cases hp : pickIn x with
    | none => exact absurd hp h1
    | some i =>
      unfold allSome
      rw [allSomeG fun y hy => h y (List.mem_cons_of_mem _ hy)]
      unfold pickIn at hp
      split at hp
      · cases hp; rfl
      · cases hp
theorem sc_law_picks : FnScope ["_law_row", "_law_words", "_law_word", "_law_sign"] ["_law_row"] (defScope s_law_picks) := ⟨rfl, rfl, rfl, by decide +kernel, rfl, by decide +kernel, by decide +kernel⟩
theorem okd_law_picks (T : TX K mg) : FnOk P w K mg base CX0 1 T.d_law_picks.a T.d_law_picks.d ["_law_row"] (liftSp M K 1 (fnSp (fStr fun z => match picksIn z with | none => .non | some ps => .lst (ps.map .int)))) := by
  refine T.d_law_picks.F.ok sc_law_picks (fun vs H Q E h => lift_len h) (fun cdv A outer s H vs Q E hr h => ?_)
  obtain ⟨ds, w, Zf, Zw, AQ, AX, hn, ha, L⟩ := h
  refine ⟨_, (pss_cons (ps_set (i := 1) sc_law_picks.nd rfl (Or.inl rfl) (pe_m1 PySem.F.slot_str_split PySem.F.type_str_split mt_splitA (pv 0) pe_str))
  (pss_cons (ps_for PassesOwn.never rfl (pi_anyK (K := K) rfl (pe_slice (sl_anyK (K := K) rfl) (pv 1) (po_some pe_int) po_none)) (pg_name (i := 2) sc_law_picks.nd rfl (Or.inl rfl))
    (pss_one (ps_if (PW.pt (pw_or (pt_not (pt_chain op_leA op_leA pe_int (pe_callB (call_lenK (K := K) rfl) (by rfl) T.z_len bt_len (pa_cons (pv 2) pa_nil)) pe_int)) (pw_or (pt_not (pt_val (pe_callB (cr_allK (K := K) rfl rfl) (by rfl) T.z_all bt_all (pa_cons (pe_lc (own := [("_law_sign", 3)]) rfl sc_law_picks.nd (pi_anyK (K := K) rfl (pv 2)) (blkOk_by (N := ["_law_row", "_law_words", "_law_word", "_law_sign"]) (sc := defScope s_law_picks) (own := [("_law_sign", 3)]) (by decide +kernel)) (fun _ _ _ _ _ => (pg_name (i := 3) sc_law_picks.nd rfl (Or.inl rfl))) (fun _ _ _ _ _ => pts_nil) (fun _ _ _ _ _ => (pe_chain op_leA op_leA pe_str (pv 3) pe_str))) pa_nil)))) (pw_or1 (pt_cmpR (op_neK (K := K) rfl (hu64 hr)) (pe_callTy call_strA (by rfl) T.z_str bt_str (pa_cons (pe_callTy call_intA (by rfl) T.z_int bt_int (pa_cons (pv 2) pa_nil)) pa_nil)) (pv 2) (nomark _))))))
    (pss_one (ps_ret pe_non))
    pss_nil)))
  (pss_one (ps_ret (pe_ifExp (pt_cmpR (op_eqK (K := K) rfl (hu64 hr)) (pe_ix (ix_anyK (K := K) rfl) (pv 1) pe_int (fun _ _ => rfl)) pe_str (nomark _)) (pe_lc (own := [("_law_word", 2)]) rfl sc_law_picks.nd (pi_anyK (K := K) rfl (pe_slice (sl_anyK (K := K) rfl) (pv 1) (po_some pe_int) po_none)) (blkOk_by (N := ["_law_row", "_law_words", "_law_word", "_law_sign"]) (sc := defScope s_law_picks) (own := [("_law_word", 2)]) (by decide +kernel)) (fun _ _ _ _ _ => (pg_name (i := 2) sc_law_picks.nd rfl (Or.inl rfl))) (fun _ _ _ _ _ => pts_nil) (fun _ _ _ _ _ => (pe_callTy call_intA (by rfl) T.z_int bt_int (pa_cons (pv 2) pa_nil)))) pe_non))))), ?_⟩
  refine L.go ?_
  clear L hr
  obtain ⟨d, hd, q⟩ := ha
  obtain ⟨z, rfl, hz, rfl⟩ := fStr_open hd
  refine at_startE [some (.va (.str z)), none, none, none] rfl ?_
  walk_at "s"
  obtain ⟨sne, sl, sm⟩ := split_blank z
  unfold picksIn at q
  refine it_L ?_
  cases hs : Txt.split z " " with
  | nil => exact absurd hs sne
  | cons w0 r =>
    rw [hs] at q sl sm
    simp only [] at q
    rw [List.map_cons]
    walk_at "s"
    rw [cutD_one]
    walk_at "s"
    have hrl : ∀ x ∈ r, x.length ≤ 1000000 := fun x hx => Nat.le_trans (sl x (List.mem_cons_of_mem _ hx)) hz
    have hrn : r.length ≤ 1000001 := by have := sm; simp at this; omega
    refine for_D (fun i e w' => w' = w ∧ (∃ s2 : Option PD, e = [some (.va (.str z)), some (.va (.lst (.str w0 :: r.map .str))), s2.map .va, none]) ∧ ∀ j x, j < i → r[j]? = some x → pickIn x ≠ none) ?_ ?_ ?_
    · exact ⟨rfl, ⟨none, rfl⟩, fun j x h => absurd h (Nat.not_lt_zero _)⟩
    · rintro i e w' d ⟨rfl, ⟨s2, rfl⟩, hj⟩ hi hd
      rw [List.getElem?_map, Option.map_eq_some_iff] at hd
      obtain ⟨x, hx, rfl⟩ := hd
      have hxm : x ∈ r := List.mem_of_getElem? hx
      have hxl := hrl x hxm
      have bad : pickIn x = none → AQ .non w' := fun h => by
        have : allSome (r.map pickIn) = none := allSomeN (List.mem_map.mpr ⟨x, hxm, h⟩)
        rw [this] at q
        split at q <;> first | exact q | skip
        rename_i h2
        split at h2 <;> cases h2
      have eo : figsOk x 4 = (decide (1 ≤ (x.length : Int)) && (decide ((x.length : Int) ≤ 4) && (x.cps.toList.map fun c => decide (c ∈ FIGS.cps.toList)).all id)) := rfl
      have stop : figsOk x 4 = false → AQ .non w' := fun h => bad (by rw [← pick_alike]; unfold lPick; rw [h]; rfl)
      walk_at "s"
      refine iteB (fun h1 => ?_) (fun h1 => ?_)
      · walk_at "s"
        refine iteB (fun h2 => ?_) (fun h2 => ?_)
        · exact stop (by rw [eo, h1]; simp at h2; simp; omega)
        have h2' : decide ((x.length : Int) ≤ 4) = true := by simpa using h2
        walk_at "s"
        refine lc_signsD [some (.va (.str z)), some (.va (.lst (.str w0 :: r.map .str))), some (.va (.str x)), none] rfl (fun c => .bl (decide (c ∈ FIGS.cps.toList))) (by omega) (noOw_dec rfl) (by decide) (fun c hc X hX => ?_) ?_
        · walk_at "s"
          have hm := fig_mem (c := c)
          refine iteB (fun h3 => ?_) (fun h3 => ?_)
          · walk_at "s"
            have h3' : (!decide ([c] < [48])) = true := h3
            rw [h3', Bool.true_and] at hm
            have e : (!decide ((Str.ofString "9").cps.toList < ({ cps := #[c] } : Str).cps.toList)) = decide (c ∈ FIGS.cps.toList) := hm
            rw [e]
            exact hX _ rfl
          · have h3' : (!decide ([c] < [48])) = false := h3
            rw [h3', Bool.false_and] at hm
            rw [hm]
            exact hX _ rfl
        · walk_at "s"
          refine iteB (fun h3 => ?_) (fun h3 => ?_)
          · walk_at "s"
            exact stop (by rw [eo, h1, h2']; simpa using h3)
          have ok : figsOk x 4 = true := by rw [eo, h1, h2']; simpa using h3
          obtain ⟨hi2, h640⟩ := pick_reads ok
          have hlog := figs4_log (by decide) ok
          have hlog' : (((NumText.digitsVal x.cps.toList : Nat) : Int)).natAbs.log2 < 1920 := by rw [Int.natAbs_natCast]; exact hlog
          walk_at "s"
          refine ab_int hi2 h640 ?_
          walk_at "s"
          refine iteB (fun h4 => ?_) (fun h4 => ?_)
          · walk_at "s"
            refine bad (by rw [← pick_alike]; unfold lPick; rw [ok, if_neg]; simpa using h4)
          · walk_at "s"
            refine ⟨rfl, ⟨some (.str x), rfl⟩, fun j y hj' hy => ?_⟩
            rcases Nat.lt_succ_iff_lt_or_eq.mp hj' with h | rfl
            · exact hj j y h hy
            · rw [hx] at hy; cases hy
              have h4' : decide (Str.ofString (toString ((NumText.digitsVal x.cps.toList : Nat) : Int)) = x) = true := by simpa using h4
              rw [← pick_alike]; unfold lPick
              rw [ok, if_pos (by rw [Bool.true_and]; exact h4')]
              exact fun h => nomatch h
      · walk_at "s"
        exact stop (by rw [eo, h1]; rfl)
    · rintro e w' ⟨rfl, ⟨s2, rfl⟩, hj⟩
      have hall : ∀ x ∈ r, pickIn x ≠ none := fun x hx => by
        obtain ⟨j, hj2⟩ := List.mem_iff_getElem?.mp hx
        have hj1 := (List.getElem?_eq_some_iff.mp hj2).1
        exact hj j x (by rw [List.length_map]; exact hj1) hj2
      rw [allSomeG hall] at q
      walk_at "s"
      by_cases hw : w0 = ("weave" : Str)
      · rw [decide_eq_true (show w0 = Str.ofString "weave" from hw)]
        rw [if_pos hw] at q
        simp only [] at q
        walk_at "s"
        refine it_L ?_
        walk_at "s"
        rw [cutD_one]
        walk_at "s"
        refine lc_mapF [some (.va (.str z)), some (.va (.lst (.str w0 :: r.map .str))), none, none] rfl (fun x => .int ((NumText.digitsVal x.cps.toList : Nat) : Int)) (by omega) (noOw_dec (by cases s2 <;> rfl)) (by decide) (fun x hx X hX => ?_) ?_
        · have hp := hall x hx
          have ok : figsOk x 4 = true := by
            cases h : figsOk x 4 with
            | true => rfl
            | false => exact absurd (by unfold pickIn; rw [h]; rfl) hp
          obtain ⟨hi2, h640⟩ := pick_reads ok
          walk_at "s"
          refine ab_int hi2 h640 ?_
          exact hX _ rfl
        · walk_at "s"
          rw [List.map_map] at q
          exact q
      · rw [decide_eq_false (show ¬ w0 = Str.ofString "weave" from hw)]
        rw [if_neg hw] at q
        simp only [] at q
        walk_at "s"
        exact q
end
end RS
set_option Elab.async false
set_option linter.all false
set_option maxRecDepth 100000
set_option maxHeartbeats 4000000
set_option synthInstance.maxHeartbeats 400000
set_option synthInstance.maxSize 20000

namespace RS
open PySem L2
/-! steps by their heads -/
local macro_rules | `(tactic| walk_at "fr") => `(tactic| first
  | assumption
  | exact SqL.of (by assumption)
  | exact SqT.of (by assumption)
  | exact Or.inl (by assumption)
  | exact Or.inr (by assumption)
  | (refine Gr.get (by assumption) ?_ (by walk_at "nin"); walk_at "fr")
  | (refine Gr.tup (by assumption) _ _ ?_; walk_at "fr")
  | (refine SqL.of ?_; walk_at "fr1")
  | (refine SqT.of ?_; walk_at "fr1")
  | (refine Gr.sqL (by assumption) ?_ (by walk_at "nin"); walk_at "fr")
  | (refine Gr.sqT (by assumption) ?_ (by walk_at "nin"); walk_at "fr")
  | (refine Gr.rep0 (by assumption) ?_; walk_at "fr")
  | (refine Gr.reps0 (by assumption) ?_; walk_at "fr"))
local macro_rules | `(tactic| walk_at "fr1") => `(tactic| first
  | assumption
  | (refine Gr.tup (by assumption) _ _ ?_; walk_at "fr1")
  | (refine Gr.get (by assumption) ?_ (by walk_at "nin"); walk_at "fr1"))
local macro_rules | `(tactic| walk_at "nin") => `(tactic| first
  | exact nin_nil
  | assumption
  | (refine nin_one ?_; walk_at "ne"))
local macro_rules | `(tactic| walk_at "ne") => `(tactic| first
  | assumption
  | exact Ne.symm (by assumption)
  | exact ne_new (by assumption) (by assumption)
  | exact Ne.symm (ne_new (by assumption) (by assumption)))
local macro_rules | `(tactic| walk_at "sz") => `(tactic| first
  | assumption
  | exact rfl
  | omega
  | (simp only [List.length_cons, List.length_nil, List.length_append, List.length_map, CDiv, CDivN, CMul]; omega)
  | decide
  | (constructor <;> first | exact rfl | omega | assumption | (simp only [List.length_cons, List.length_nil, List.length_append, List.length_map]; omega) | decide))
local macro_rules | `(tactic| walk_at "i1") => `(tactic| first
  | ((with_reducible refine' isi_L_list ?vh ?_); (case vh => walk_at "fr"))
  | ((with_reducible refine' isi_T_list ?vh ?_); (case vh => walk_at "fr"))
  | ((with_reducible refine' isi_L_tuple ?vh ?_); (case vh => walk_at "fr"))
  | ((with_reducible refine' isi_T_tuple ?vh ?_); (case vh => walk_at "fr"))
  | ((with_reducible refine' isi_L_str ?vh ?_); (case vh => walk_at "fr"))
  | ((with_reducible refine' isi_T_str ?vh ?_); (case vh => walk_at "fr"))
  | ((with_reducible refine' isi_L_int ?vh ?_); (case vh => walk_at "fr"))
  | ((with_reducible refine' isi_T_int ?vh ?_); (case vh => walk_at "fr"))
  | ((with_reducible refine' isi_L_bool ?vh ?_); (case vh => walk_at "fr"))
  | ((with_reducible refine' isi_T_bool ?vh ?_); (case vh => walk_at "fr")))
local macro_rules | `(tactic| walk_at "s") => `(tactic| repeat (first
  | with_reducible refine Stp.h ?_
  | ((with_reducible refine szc ?_ ?_); walk_at "sz")
  | ((with_reducible refine' w_kTyL ?vh ?_); (case vh => walk_at "fr"))
  | ((with_reducible refine' w_lenL ?vh ?_); (case vh => walk_at "fr"))
  | ((with_reducible refine' w_lenT ?vh ?_); (case vh => walk_at "fr"))))
local macro_rules | `(tactic| walk_at "gr") => `(tactic| first
  | exact Gr.refl _ _
  | assumption
  | exact Gr.wide (by assumption)
  | (refine Gr.trans ?_ (by assumption); walk_at "gr")
  | (refine Gr.trans ?_ (Gr.wide (by assumption)); walk_at "gr"))
local macro_rules | `(tactic| walk_at "s2") => `(tactic| (with_reducible refine Stp.h ?_; with_reducible refine Stp.h ?_))

section
variable {P : Program} {w : World} {K : PySem.W.Frag} {mg : Str → Option Value} {base : Heap}
variable {W : Type} {M : WM W}
/-- the steps ahead of the first row that can't stand, and its number -/
def readGo : List Str → Int → Option Nat × List (Int × PD)
  | [], _ => (none, [])
  | r :: rs, m => match rowOne r m with
    | none => (some 0, [])
    | some (d, st) => ((readGo rs (d + (if inBlocks st then 1 else 0))).1.map (· + 1), (d, st) :: (readGo rs (d + (if inBlocks st then 1 else 0))).2)
def optN : Option Nat → PD
  | none => .non
  | some k => .int (k : Int)
def readD (rs : List Str) : PD := .tup [optN (readGo rs 0).1, .lst ((readGo rs 0).2.map entry)]
/-- of a list of texts -/
def aRowsSp (g : List Str → PD) : ASp W := fun ds w Q _ => ∃ rs : List Str, ds = [.lst (rs.map .str)] ∧ rs.length ≤ 1000 ∧ (∀ r ∈ rs, r.length ≤ 1000000) ∧ Q (g rs) w
instance {g : List Str → PD} {rs : List Str} {w : W} {Q : PD → W → Prop} {X : XA W} : Stp (aRowsSp g [.lst (rs.map .str)] w Q X) (SzC (rs.length ≤ 1000) ∧ SzC (∀ r ∈ rs, r.length ≤ 1000000) ∧ Q (g rs) w) := ⟨fun h => ⟨rs, rfl, h.1, h.2.1, h.2.2⟩⟩
theorem readGo_fst : ∀ {rs : List Str} {m : Int}, (readGo rs m).1 = rowsBad rs m
  | [], _ => rfl
  | r :: rs, m => by
    unfold readGo rowsBad
    cases rowOne r m with
    | none => rfl
    | some p => obtain ⟨d, st⟩ := p; simp only []; rw [readGo_fst]
theorem readGo_len : ∀ {rs : List Str} {m : Int}, (readGo rs m).2.length ≤ rs.length
  | [], _ => Nat.le_refl _
  | r :: rs, m => by
    unfold readGo
    cases rowOne r m with
    | none => exact Nat.zero_le _
    | some p => obtain ⟨d, st⟩ := p; simp only [List.length_cons]; exact Nat.succ_le_succ readGo_len
theorem readGo_snd : ∀ {rs : List Str} {m : Int} {l : List (Int × PD)}, rowsGo rs m = some l → (readGo rs m).2 = l
  | [], _, _, h => by cases h; rfl
  | r :: rs, m, l, h => by
    unfold rowsGo at h
    unfold readGo
    cases ho : rowOne r m with
    | none => rw [ho] at h; cases h
    | some p =>
      obtain ⟨d, st⟩ := p
      rw [ho] at h
      simp only [] at h ⊢
      split at h
      · cases h
      · rename_i l' hl'
        cases h
        rw [readGo_snd hl']
theorem sc_law_read : FnScope ["_law_rows_here", "_law_found", "_law_most", "_law_number", "_law_row", "_law_blanks", "_law_step_here"] ["_law_rows_here"] (defScope s_law_read) := ⟨rfl, rfl, rfl, by decide +kernel, rfl, by decide +kernel, by decide +kernel⟩
theorem okd_law_read (T : TX K mg) : FnOk P w K mg base CX0 5 T.d_law_read.a T.d_law_read.d ["_law_rows_here"] (liftSp M K 1 (aRowsSp readD)) := by
  refine T.d_law_read.F.ok sc_law_read (fun vs H Q E h => lift_len h) (fun cdv A outer s H vs Q E hr h => ?_)
  obtain ⟨ds, w, Zf, Zw, AQ, AX, hn, ha, L⟩ := h
  refine ⟨_, (pss_cons (ps_par (i := 1) (j := 2) rfl sc_law_read.nd rfl rfl (by decide) rfl rfl (pa_cons (pe_lst pa_nil) (pa_cons pe_int pa_nil)) (by rfl))
  (pss_cons (ps_for PassesOwn.never rfl (piK (f := fun K => iEnum K _) (K := K) rfl (pi_enum (by rfl) T.z_enumerate (pa_cons (pv 0) pa_nil))) (pg_tupK (K := K) (n := 2) rfl rfl (pgs_cons (pg_name (i := 3) sc_law_read.nd rfl (Or.inl rfl)) (pgs_cons (pg_name (i := 4) sc_law_read.nd rfl (Or.inl rfl)) pgs_nil)))
    (pss_cons (ps_set (i := 5) sc_law_read.nd rfl (Or.inl rfl) (pe_op op_sub (pe_callB (call_lenK (K := K) rfl) (by rfl) T.z_len bt_len (pa_cons (pv 4) pa_nil)) (pe_callB (call_lenK (K := K) rfl) (by rfl) T.z_len bt_len (pa_cons (pe_m1 PySem.F.slot_str_lstrip PySem.F.type_str_lstrip mt_lstripA (pv 4) pe_str) pa_nil))))
  (pss_cons (ps_set (i := 6) sc_law_read.nd rfl (Or.inl rfl) (pe_call (okd_law_step (M := M) T) (hr.mono (by decide)) (by rfl) T.d_law_step.g T.d_law_step.F.kp T.d_law_step.b .nil pass0 (pa_cons (pe_slice (sl_anyK (K := K) rfl) (pv 4) (po_some (pv 5)) po_none) pa_nil)))
  (pss_cons (ps_if (PW.pt (pw_or (pt_cmp (pc_isN (pv 6)) rfl) (pw_or (pt_cmpR (op_eqK (K := K) rfl (hu64 hr)) (pe_op op_mod (pv 5) pe_int) pe_int (nomark _)) (pw_or1 (pt_cmpR op_gt (pv 5) (pe_op op_mulA pe_int (pv 2)) (nomark _))))))
    (pss_one (ps_ret (pe_tup (pa_cons (pv 3) (pa_cons (pv 1) pa_nil)))))
    pss_nil)
  (pss_cons (ps_set (i := 2) sc_law_read.nd rfl (Or.inl rfl) (pe_op (op_addK (K := K) rfl) (pe_op op_fdivA (pv 5) pe_int) (pe_callTy call_intA (by rfl) T.z_int bt_int (pa_cons (pe_cmpR (op_inK (K := K) rfl) (pe_ix (ix_anyK (K := K) rfl) (pv 6) pe_int (fun _ _ => rfl)) (pe_tup (pa_cons pe_str (pa_cons pe_str (pa_cons pe_str pa_nil)))) (by rfl)) pa_nil))))
  (pss_one (ps_expr (pe_bmK (K := K) rfl PySem.F.plainAttrs_list PySem.F.slot_list_append PySem.F.type_list_append mt_append (pv 1) (pa_cons (pe_tup (pa_cons (pe_op op_fdivA (pv 5) pe_int) (pa_cons (pv 6) pa_nil))) pa_nil)))))))))
  (pss_one (ps_ret (pe_tup (pa_cons pe_non (pa_cons (pv 1) pa_nil))))))), ?_⟩
  refine L.go ?_
  clear L hr
  obtain ⟨rs, rfl, hn1, hz, q⟩ := ha
  refine at_startE [some (.va (.lst (rs.map .str))), none, none, none, none, none, none] rfl ?_
  walk_at "s"
  refine for_D (fun i e w' => w' = w ∧ ∃ (dn : List (Int × PD)) (most : Int) (s3 s4 s5 s6 : Option PD), e = [some (.va (.lst (rs.map .str))), some (.ow (dn.map entry)), some (.va (.int most)), s3.map .va, s4.map .va, s5.map .va, s6.map .va] ∧ dn.length = i ∧
    readGo rs 0 = ((readGo (rs.drop i) most).1.map (· + i), dn ++ (readGo (rs.drop i) most).2)) ?_ ?_ ?_
  · refine ⟨rfl, [], 0, none, none, none, none, rfl, rfl, ?_⟩
    simp
  · rintro i e w' d ⟨rfl, dn, most, s3, s4, s5, s6, rfl, hdl, inv⟩ hi hd
    rw [enumD_get, List.getElem?_map] at hd
    obtain ⟨x, hx, rfl⟩ := Option.map_eq_some_iff.mp hd
    obtain ⟨r, hr, rfl⟩ := Option.map_eq_some_iff.mp hx
    have hrm : r ∈ rs := List.mem_of_getElem? hr
    have hrl := hz r hrm
    have hlt : i < rs.length := (List.getElem?_eq_some_iff.mp hr).1
    have hdr : rs.drop i = r :: rs.drop (i + 1) := by
      rw [List.drop_eq_getElem_cons hlt]; congr 1
      exact (List.getElem?_eq_some_iff.mp hr).2
    rw [hdr] at inv
    rw [Nat.zero_add]
    have hll := lstrip_len r " "
    have hcl := cutS_len r (some (blanksOf r)) none
    have hb : (r.length : Int) - ((Txt.lstripChars r (Str.ofString " ")).length : Int) = blanksOf r := rfl
    have hra := row_alike r most
    unfold lRow at hra
    walk_at "s"
    rw [hb]
    walk_at "s"
    have hso := stepIn_ok (cutS r (some (blanksOf r)) none)
    rw [← step_alike] at hso
    generalize lStep (cutS r (some (blanksOf r)) none) = st at *
    have bad : rowOne r most = none → AQ (.tup [.int (i : Int), .lst (dn.map entry)]) w' := fun h => by
      have : readGo (r :: rs.drop (i + 1)) most = (some 0, []) := by unfold readGo; rw [h]
      rw [this] at inv
      unfold readD at q
      rw [inv] at q
      simpa [optN] using q
    rcases hso with rfl | ⟨hf, s, rr, rfl, hrr⟩
    · walk_at "s"
      exact bad hra.symm
    simp only [] at hra
    walk_at "s"
    refine iteB (fun h1 => ?_) (fun h1 => ?_)
    · rw [h1, Bool.true_or, if_pos rfl] at hra
      walk_at "s"
      exact bad hra.symm
    rw [h1, Bool.false_or] at hra
    walk_at "s"
    refine iteB (fun h2 => ?_) (fun h2 => ?_)
    · rw [if_pos h2] at hra
      walk_at "s"
      exact bad hra.symm
    rw [if_neg (by rw [h2]; exact Bool.false_ne_true)] at hra
    walk_at "s"
    rw [in_blocks]
    refine ⟨rfl, dn ++ [(blanksOf r / 2, .tup (.str s :: rr))], blanksOf r / 2 + (if inV (.str s) blocks = true then 1 else 0), some (.int (i : Int)), some (.str r), some (.int (blanksOf r)), some (.tup (.str s :: rr)), ?_, by rw [List.length_append, hdl]; rfl, ?_⟩
    · rw [List.map_append]; rfl
    · have : readGo (r :: rs.drop (i + 1)) most = ((readGo (rs.drop (i + 1)) (blanksOf r / 2 + (if inV (.str s) blocks = true then 1 else 0))).1.map (· + 1), (blanksOf r / 2, .tup (.str s :: rr)) :: (readGo (rs.drop (i + 1)) (blanksOf r / 2 + (if inV (.str s) blocks = true then 1 else 0))).2) := by
        conv => lhs; unfold readGo
        rw [← hra]; rfl
      rw [this] at inv
      rw [inv]
      simp only [Option.map_map, List.append_assoc, List.singleton_append, Prod.mk.injEq, and_true]
      cases (readGo (rs.drop (i + 1)) (blanksOf r / 2 + (if inV (.str s) blocks = true then 1 else 0))).1 with
      | none => rfl
      | some k => simp only [Option.map_some, Function.comp]; congr 1; omega
  · rintro e w' ⟨rfl, dn, most, s3, s4, s5, s6, rfl, hdl, inv⟩
    rw [enumD_len, List.length_map] at hdl inv
    rw [List.drop_length] at inv
    unfold readD at q
    rw [inv] at q
    walk_at "s"
    simp only [readGo, List.append_nil] at q
    exact q
end
end RS
set_option Elab.async false
set_option linter.all false
set_option maxRecDepth 100000
set_option maxHeartbeats 4000000
set_option synthInstance.maxHeartbeats 400000
set_option synthInstance.maxSize 20000

namespace RS
open PySem L2
/-! steps by their heads -/
local macro_rules | `(tactic| walk_at "fr") => `(tactic| first
  | assumption
  | exact SqL.of (by assumption)
  | exact SqT.of (by assumption)
  | exact Or.inl (by assumption)
  | exact Or.inr (by assumption)
  | (refine Gr.get (by assumption) ?_ (by walk_at "nin"); walk_at "fr")
  | (refine Gr.tup (by assumption) _ _ ?_; walk_at "fr")
  | (refine SqL.of ?_; walk_at "fr1")
  | (refine SqT.of ?_; walk_at "fr1")
  | (refine Gr.sqL (by assumption) ?_ (by walk_at "nin"); walk_at "fr")
  | (refine Gr.sqT (by assumption) ?_ (by walk_at "nin"); walk_at "fr")
  | (refine Gr.rep0 (by assumption) ?_; walk_at "fr")
  | (refine Gr.reps0 (by assumption) ?_; walk_at "fr"))
local macro_rules | `(tactic| walk_at "fr1") => `(tactic| first
  | assumption
  | (refine Gr.tup (by assumption) _ _ ?_; walk_at "fr1")
  | (refine Gr.get (by assumption) ?_ (by walk_at "nin"); walk_at "fr1"))
local macro_rules | `(tactic| walk_at "nin") => `(tactic| first
  | exact nin_nil
  | assumption
  | (refine nin_one ?_; walk_at "ne"))
local macro_rules | `(tactic| walk_at "ne") => `(tactic| first
  | assumption
  | exact Ne.symm (by assumption)
  | exact ne_new (by assumption) (by assumption)
  | exact Ne.symm (ne_new (by assumption) (by assumption)))
local macro_rules | `(tactic| walk_at "sz") => `(tactic| first
  | assumption
  | exact rfl
  | omega
  | (simp only [List.length_cons, List.length_nil, List.length_append, List.length_map, CDiv, CDivN, CMul]; omega)
  | decide
  | (constructor <;> first | exact rfl | omega | assumption | (simp only [List.length_cons, List.length_nil, List.length_append, List.length_map]; omega) | decide))
local macro_rules | `(tactic| walk_at "i1") => `(tactic| first
  | ((with_reducible refine' isi_L_list ?vh ?_); (case vh => walk_at "fr"))
  | ((with_reducible refine' isi_T_list ?vh ?_); (case vh => walk_at "fr"))
  | ((with_reducible refine' isi_L_tuple ?vh ?_); (case vh => walk_at "fr"))
  | ((with_reducible refine' isi_T_tuple ?vh ?_); (case vh => walk_at "fr"))
  | ((with_reducible refine' isi_L_str ?vh ?_); (case vh => walk_at "fr"))
  | ((with_reducible refine' isi_T_str ?vh ?_); (case vh => walk_at "fr"))
  | ((with_reducible refine' isi_L_int ?vh ?_); (case vh => walk_at "fr"))
  | ((with_reducible refine' isi_T_int ?vh ?_); (case vh => walk_at "fr"))
  | ((with_reducible refine' isi_L_bool ?vh ?_); (case vh => walk_at "fr"))
  | ((with_reducible refine' isi_T_bool ?vh ?_); (case vh => walk_at "fr")))
local macro_rules | `(tactic| walk_at "s") => `(tactic| repeat (first
  | with_reducible refine Stp.h ?_
  | ((with_reducible refine szc ?_ ?_); walk_at "sz")
  | ((with_reducible refine' w_kTyL ?vh ?_); (case vh => walk_at "fr"))
  | ((with_reducible refine' w_lenL ?vh ?_); (case vh => walk_at "fr"))
  | ((with_reducible refine' w_lenT ?vh ?_); (case vh => walk_at "fr"))))
local macro_rules | `(tactic| walk_at "gr") => `(tactic| first
  | exact Gr.refl _ _
  | assumption
  | exact Gr.wide (by assumption)
  | (refine Gr.trans ?_ (by assumption); walk_at "gr")
  | (refine Gr.trans ?_ (Gr.wide (by assumption)); walk_at "gr"))
local macro_rules | `(tactic| walk_at "s2") => `(tactic| (with_reducible refine Stp.h ?_; with_reducible refine Stp.h ?_))

section
variable {P : Program} {w : World} {K : PySem.W.Frag} {mg : Str → Option Value} {base : Heap}
variable {W : Type} {M : WM W}
theorem built_fuel : ∀ (n m : Nat) (l : List (Int × PD)) (d : Int), l.length ≤ n → l.length ≤ m → builtAt n l d = builtAt m l d
  | n, m, [], d, _, _ => by cases n <;> cases m <;> rfl
  | 0, _, q :: r, d, h, _ => by simp at h
  | n + 1, 0, q :: r, d, _, h => by simp at h
  | n + 1, m + 1, (e, st) :: r, d, h, h' => by
    have t1 : (r.takeWhile fun q => decide (d < q.1)).length ≤ r.length := (List.takeWhile_sublist _).length_le
    have t2 : (r.dropWhile fun q => decide (d < q.1)).length ≤ r.length := (List.dropWhile_sublist _).length_le
    simp only [List.length_cons] at h h'
    rw [builtAt, builtAt, built_fuel n m _ (d + 1) (by omega) (by omega), built_fuel n m _ d (by omega) (by omega)]
def builtB (l : List (Int × PD)) (d : Int) : List PD := builtAt l.length l d
theorem builtB_cons (e : Int) (st : PD) (r : List (Int × PD)) (d : Int) : builtB ((e, st) :: r) d = (if inBlocks st = true then addW st (builtB (r.takeWhile fun q => decide (d < q.1)) (d + 1)) else st) :: builtB (r.dropWhile fun q => decide (d < q.1)) d := by
  have t1 : (r.takeWhile fun q => decide (d < q.1)).length ≤ r.length := (List.takeWhile_sublist _).length_le
  have t2 : (r.dropWhile fun q => decide (d < q.1)).length ≤ r.length := (List.dropWhile_sublist _).length_le
  unfold builtB
  rw [List.length_cons, builtAt, built_fuel r.length _ _ (d + 1) t1 (Nat.le_refl _), built_fuel r.length _ _ d t2 (Nat.le_refl _)]
def aBuilt (m : Nat) : ASp W := fun ds w Q _ => ∃ (l : List (Int × PD)) (d : Int), ds = [.lst (l.map entry), .int d] ∧ l.length ≤ m ∧ m ≤ 1000 ∧ (∀ p ∈ l, stepOk p.2) ∧ Q (.tup (builtB l d)) w
def aBuiltV : Nat → ASp W
  | 0 => fun _ _ _ _ => False
  | j + 1 => aBuilt j
theorem sc_law_built : FnScope ["_law_found", "_law_depth", "_law_steps", "_law_k", "_law_step_here", "_law_within"] ["_law_found", "_law_depth"] (defScope s_law_built) := ⟨rfl, rfl, rfl, by decide +kernel, rfl, by decide +kernel, by decide +kernel⟩
theorem built_turn (T : TX K mg) (m : Nat) (IH : FnOk P w K mg base CX0 (m + 1) T.d_law_built.a T.d_law_built.d ["_law_found", "_law_depth"] (liftSp M K 2 (aBuiltV m))) :
    FnOk P w K mg base CX0 (m + 1 + 1) T.d_law_built.a T.d_law_built.d ["_law_found", "_law_depth"] (liftSp M K 2 (aBuilt m)) := by
  refine T.d_law_built.F.ok sc_law_built (fun vs H Q E h => lift_len h) (fun cdv A outer s H vs Q E hr h => ?_)
  obtain ⟨ds, w, Zf, Zw, AQ, AX, hn, ⟨l, d, rfl, hlm, hm, hok, q⟩, L⟩ := h
  refine ⟨_, (pss_cons (ps_par (i := 2) (j := 3) rfl sc_law_built.nd rfl rfl (by decide) rfl rfl (pa_cons (pe_lst pa_nil) (pa_cons pe_int pa_nil)) (by rfl))
  (pss_cons (ps_while PassesOwn.never (pt_cmpR op_lt (pv 3) (pe_callB (call_lenK (K := K) rfl) (by rfl) T.z_len bt_len (pa_cons (pv 0) pa_nil)) (nomark _))
    (pss_cons (ps_par3 (i := 4) (j := 5) (l := 3) rfl sc_law_built.nd rfl rfl rfl (by decide) (by decide) (by decide) rfl rfl rfl (pa_cons (pe_ix (ix_anyK (K := K) rfl) (pe_ix (ix_anyK (K := K) rfl) (pv 0) (pv 3) (fun _ _ => rfl)) pe_int (fun _ _ => rfl)) (pa_cons (pe_lst pa_nil) (pa_cons (pe_op (op_addK (K := K) rfl) (pv 3) pe_int) pa_nil))) (by rfl))
  (pss_cons (ps_while PassesOwn.never (PW.pt (pw_and (pt_cmpR op_lt (pv 3) (pe_callB (call_lenK (K := K) rfl) (by rfl) T.z_len bt_len (pa_cons (pv 0) pa_nil)) (nomark _)) (pw_and1 (pt_cmpR op_gt (pe_ix (ix_anyK (K := K) rfl) (pe_ix (ix_anyK (K := K) rfl) (pv 0) (pv 3) (fun _ _ => rfl)) pe_int (fun _ _ => rfl)) (pv 1) (nomark _)))))
    (pss_cons (ps_expr (pe_bmK (K := K) rfl PySem.F.plainAttrs_list PySem.F.slot_list_append PySem.F.type_list_append mt_append (pv 5) (pa_cons (pe_ix (ix_anyK (K := K) rfl) (pv 0) (pv 3) (fun _ _ => rfl)) pa_nil)))
  (pss_one (ps_set (i := 3) sc_law_built.nd rfl (Or.inl rfl) (pe_op (op_addK (K := K) rfl) (pv 3) pe_int)))))
  (Evl.pss_cut (ps_if (pt_cmpR (op_inK (K := K) rfl) (pe_ix (ix_anyK (K := K) rfl) (pv 4) pe_int (fun _ _ => rfl)) (pe_tup (pa_cons pe_str (pa_cons pe_str (pa_cons pe_str pa_nil)))) (by rfl))
    (pss_one (ps_set (i := 4) sc_law_built.nd rfl (Or.inl rfl) (pe_op (op_addK (K := K) rfl) (pv 4) (pe_tup (pa_cons (pe_call IH hr (by rfl) T.d_law_built.g T.d_law_built.F.kp T.d_law_built.b .nil pass0 (pa_cons (pv 5) (pa_cons (pe_op (op_addK (K := K) rfl) (pv 1) pe_int) pa_nil))) pa_nil)))))
    pss_nil)
  (pss_one (ps_expr (pe_bmK (K := K) rfl PySem.F.plainAttrs_list PySem.F.slot_list_append PySem.F.type_list_append mt_append (pv 2) (pa_cons (pv 4) pa_nil))))))))
  (pss_one (ps_ret (pe_callTy (call_tupK (K := K) rfl) (by rfl) T.z_tuple bt_tuple (pa_cons (pv 2) pa_nil)))))), ?_⟩
  refine L.go ?_
  clear L hr
  refine at_startE [some (.va (.lst (l.map entry))), some (.va (.int d)), none, none, none, none] rfl ?_
  walk_at "s"
  have at_ : ∀ {k : Nat} {e : Int} {st : PD}, l[k]? = some (e, st) → atI (l.map entry) (k : Int) = some (.tup [.int e, st]) := fun h => atI_nat' (by rw [List.getElem?_map, h]; rfl)
  refine while_D (fun n e w' => w' = w ∧ ∃ (k : Nat) (dn : List PD) (s4 : Option PD) (s5 : Option Sl), e = [some (.va (.lst (l.map entry))), some (.va (.int d)), some (.ow dn), some (.va (.int (k : Int))), s4.map .va, s5] ∧ n = l.length - k ∧ k ≤ l.length ∧ dn.length ≤ k ∧ builtB l d = dn ++ builtB (l.drop k) d) l.length ?_ ?_
  · exact ⟨rfl, 0, [], none, none, rfl, rfl, Nat.zero_le _, Nat.le_refl _, rfl⟩
  rintro n e w' ⟨rfl, k, dn, s4, s5, rfl, rfl, hkl, hdn, inv⟩
  walk_at "s"
  rw [List.length_map]
  refine iteB (fun h1 => ?_) (fun h1 => ?_)
  · have hk : k < l.length := by simpa using h1
    obtain ⟨⟨e, st⟩, hp⟩ : ∃ p, l[k]? = some p := ⟨l[k], List.getElem?_eq_getElem hk⟩
    have hdr : l.drop k = (e, st) :: l.drop (k + 1) := by
      rw [List.drop_eq_getElem_cons hk]; congr 1
      exact (List.getElem?_eq_some_iff.mp hp).2
    have hst : stepOk st := hok _ (List.mem_of_getElem? hp)
    rw [hdr, builtB_cons] at inv
    walk_at "s"
    refine ix_L (at_ hp) ?_
    walk_at "s"
    -- the deeper ones
    refine while_X (fun n e' w'' => w'' = w' ∧ ∃ (j : Nat), e' = [some (.va (.lst (l.map entry))), some (.va (.int d)), some (.ow dn), some (.va (.int ((k + 1 + j : Nat) : Int))), some (.va st), some (.ow (((l.drop (k + 1)).take j).map entry))] ∧ n = l.length - (k + 1 + j) ∧ k + 1 + j ≤ l.length ∧
      (l.drop (k + 1)).takeWhile (fun q => decide (d < q.1)) = (l.drop (k + 1)).take j ++ (l.drop (k + 1 + j)).takeWhile (fun q => decide (d < q.1)) ∧ (l.drop (k + 1)).dropWhile (fun q => decide (d < q.1)) = (l.drop (k + 1 + j)).dropWhile (fun q => decide (d < q.1)))
      (fun e' w'' => w'' = w' ∧ ∃ (j : Nat), e' = [some (.va (.lst (l.map entry))), some (.va (.int d)), some (.ow dn), some (.va (.int ((k + 1 + j : Nat) : Int))), some (.va st), some (.ow (((l.drop (k + 1)).take j).map entry))] ∧ k + 1 + j ≤ l.length ∧
      (l.drop (k + 1)).takeWhile (fun q => decide (d < q.1)) = (l.drop (k + 1)).take j ∧ (l.drop (k + 1)).dropWhile (fun q => decide (d < q.1)) = l.drop (k + 1 + j)) (l.length - (k + 1)) ?_ ?_ ?_
    · exact ⟨rfl, 0, by simp, by simp, by omega, by simp, by simp⟩
    · rintro n e' w'' ⟨rfl, j, rfl, rfl, hjl, tk, dk⟩
      walk_at "s"
      rw [List.length_map]
      refine iteB (fun h2 => ?_) (fun h2 => ?_)
      · have hk2 : k + 1 + j < l.length := by simp at h2; omega
        obtain ⟨⟨e2, st2⟩, hp2⟩ : ∃ p, l[k + 1 + j]? = some p := ⟨l[k + 1 + j], List.getElem?_eq_getElem hk2⟩
        have hdr2 : l.drop (k + 1 + j) = (e2, st2) :: l.drop (k + 1 + j + 1) := by
          rw [List.drop_eq_getElem_cons hk2]; congr 1
          exact (List.getElem?_eq_some_iff.mp hp2).2
        have htj : (l.drop (k + 1)).take (j + 1) = (l.drop (k + 1)).take j ++ [(e2, st2)] := take_succ_get (by rw [List.getElem?_drop]; exact hp2)
        rw [hdr2] at tk dk
        walk_at "s"
        refine ix_L (at_ hp2) ?_
        walk_at "s"
        refine iteB (fun h3 => ?_) (fun h3 => ?_)
        · rw [List.takeWhile_cons_of_pos (by exact h3)] at tk
          rw [List.dropWhile_cons_of_pos (by exact h3)] at dk
          have hsz : (((l.drop (k + 1)).take j).map entry).length < 16000000 := by rw [List.length_map, List.length_take, List.length_drop]; omega
          walk_at "s"
          refine ix_L (at_ hp2) ?_
          walk_at "s"
          refine ⟨l.length - (k + 1 + (j + 1)), by omega, rfl, j + 1, ?_, rfl, by omega, ?_, by rw [show k + 1 + (j + 1) = k + 1 + j + 1 by omega]; exact dk⟩
          · rw [htj, List.map_append, show ((k + 1 + (j + 1) : Nat) : Int) = ((k + 1 + j : Nat) : Int) + 1 by omega]; rfl
          · rw [htj, tk, List.append_assoc]; rfl
        · rw [List.takeWhile_cons_of_neg (by rw [show decide (d < (e2, st2).1) = false from h3]; exact Bool.false_ne_true)] at tk
          rw [List.dropWhile_cons_of_neg (by rw [show decide (d < (e2, st2).1) = false from h3]; exact Bool.false_ne_true)] at dk
          exact ⟨rfl, j, rfl, hjl, by rw [tk, List.append_nil], by rw [dk, hdr2]⟩
      · have hk2 : k + 1 + j = l.length := by have : ¬ (((k + 1 + j : Nat) : Int) < (l.length : Int)) := by simpa using h2
                                              omega
        rw [hk2, List.drop_length] at tk dk
        exact ⟨rfl, j, rfl, hjl, by rw [tk]; simp, by rw [dk, hk2, List.drop_length]; rfl⟩
    · rintro e' w'' ⟨rfl, j, rfl, hjl, tk, dk⟩
      rw [tk, dk] at inv
      obtain ⟨hf, s, rr, rfl, hrr⟩ := hst
      have hib : inBlocks (.tup (.str s :: rr)) = inV (.str s) blocks := rfl
      refine ⟨fun e2 w2 => w2 = w'' ∧ ∃ (s5 : Option Sl) (st2 : PD), e2 = [some (.va (.lst (l.map entry))), some (.va (.int d)), some (.ow dn), some (.va (.int ((k + 1 + j : Nat) : Int))), some (.va st2), s5] ∧ builtB l d = dn ++ st2 :: builtB (l.drop (k + 1 + j)) d, ?_, ?_⟩
      · walk_at "s"
        rw [in_blocks]
        rw [hib] at inv
        refine iteB (fun h4 => ?_) (fun h4 => ?_)
        · rw [if_pos h4] at inv
          walk_at "s"
          have htl : ((l.drop (k + 1)).take j).length + 1 ≤ m := by rw [List.length_take, List.length_drop]; omega
          obtain ⟨m', rfl⟩ : ∃ m', m = m' + 1 := ⟨m - 1, by omega⟩
          refine ⟨(l.drop (k + 1)).take j, d + 1, rfl, by omega, by omega, fun p hp => hok p (List.mem_of_mem_drop (List.mem_of_mem_take hp)), ?_⟩
          have hsz : (PD.str s :: rr).length ≤ 11 := by simp; omega
          walk_at "s"
          refine szc ⟨(fun h => nomatch h), by simp; omega⟩ ?_
          walk_at "s"
          exact ⟨rfl, _, _, rfl, inv⟩
        · rw [if_neg (by rw [h4]; exact Bool.false_ne_true)] at inv
          walk_at "s"
          exact ⟨rfl, _, _, rfl, inv⟩
      · rintro e2 w2 ⟨rfl, s5', st2, rfl, inv2⟩
        have hsz : dn.length < 16000000 := by omega
        walk_at "s"
        exact ⟨l.length - (k + 1 + j), by omega, rfl, k + 1 + j, dn ++ [st2], some st2, s5', rfl, rfl, hjl, by rw [List.length_append]; simp; omega, by rw [inv2, List.append_assoc]; rfl⟩
  · have hk : k = l.length := by have : ¬ ((k : Int) < (l.length : Int)) := by simpa using h1
                                 omega
    subst hk
    rw [List.drop_length, show builtB [] d = [] from rfl, List.append_nil] at inv
    rw [inv] at q
    walk_at "s"
    exact q
theorem okd_built (T : TX K mg) : ∀ m : Nat, FnOk P w K mg base CX0 (m + 2) T.d_law_built.a T.d_law_built.d ["_law_found", "_law_depth"] (liftSp M K 2 (aBuilt m))
  | 0 => built_turn T 0 (fn_never (lift_never fun _ _ _ _ z => z))
  | m + 1 => built_turn T (m + 1) (okd_built T m)
end
end RS
set_option Elab.async false
set_option linter.all false
set_option maxRecDepth 100000
set_option maxHeartbeats 4000000
set_option synthInstance.maxHeartbeats 400000
set_option synthInstance.maxSize 20000

namespace RS
open PySem L2
/-! steps by their heads -/
local macro_rules | `(tactic| walk_at "fr") => `(tactic| first
  | assumption
  | exact SqL.of (by assumption)
  | exact SqT.of (by assumption)
  | exact Or.inl (by assumption)
  | exact Or.inr (by assumption)
  | (refine Gr.get (by assumption) ?_ (by walk_at "nin"); walk_at "fr")
  | (refine Gr.tup (by assumption) _ _ ?_; walk_at "fr")
  | (refine SqL.of ?_; walk_at "fr1")
  | (refine SqT.of ?_; walk_at "fr1")
  | (refine Gr.sqL (by assumption) ?_ (by walk_at "nin"); walk_at "fr")
  | (refine Gr.sqT (by assumption) ?_ (by walk_at "nin"); walk_at "fr")
  | (refine Gr.rep0 (by assumption) ?_; walk_at "fr")
  | (refine Gr.reps0 (by assumption) ?_; walk_at "fr"))
local macro_rules | `(tactic| walk_at "fr1") => `(tactic| first
  | assumption
  | (refine Gr.tup (by assumption) _ _ ?_; walk_at "fr1")
  | (refine Gr.get (by assumption) ?_ (by walk_at "nin"); walk_at "fr1"))
local macro_rules | `(tactic| walk_at "nin") => `(tactic| first
  | exact nin_nil
  | assumption
  | (refine nin_one ?_; walk_at "ne"))
local macro_rules | `(tactic| walk_at "ne") => `(tactic| first
  | assumption
  | exact Ne.symm (by assumption)
  | exact ne_new (by assumption) (by assumption)
  | exact Ne.symm (ne_new (by assumption) (by assumption)))
local macro_rules | `(tactic| walk_at "sz") => `(tactic| first
  | assumption
  | exact rfl
  | omega
  | (simp only [List.length_cons, List.length_nil, List.length_append, List.length_map, CDiv, CDivN, CMul]; omega)
  | decide
  | (constructor <;> first | exact rfl | omega | assumption | (simp only [List.length_cons, List.length_nil, List.length_append, List.length_map]; omega) | decide))
local macro_rules | `(tactic| walk_at "i1") => `(tactic| first
  | ((with_reducible refine' isi_L_list ?vh ?_); (case vh => walk_at "fr"))
  | ((with_reducible refine' isi_T_list ?vh ?_); (case vh => walk_at "fr"))
  | ((with_reducible refine' isi_L_tuple ?vh ?_); (case vh => walk_at "fr"))
  | ((with_reducible refine' isi_T_tuple ?vh ?_); (case vh => walk_at "fr"))
  | ((with_reducible refine' isi_L_str ?vh ?_); (case vh => walk_at "fr"))
  | ((with_reducible refine' isi_T_str ?vh ?_); (case vh => walk_at "fr"))
  | ((with_reducible refine' isi_L_int ?vh ?_); (case vh => walk_at "fr"))
  | ((with_reducible refine' isi_T_int ?vh ?_); (case vh => walk_at "fr"))
  | ((with_reducible refine' isi_L_bool ?vh ?_); (case vh => walk_at "fr"))
  | ((with_reducible refine' isi_T_bool ?vh ?_); (case vh => walk_at "fr")))
local macro_rules | `(tactic| walk_at "s") => `(tactic| repeat (first
  | with_reducible refine Stp.h ?_
  | ((with_reducible refine szc ?_ ?_); walk_at "sz")
  | ((with_reducible refine' w_kTyL ?vh ?_); (case vh => walk_at "fr"))
  | ((with_reducible refine' w_lenL ?vh ?_); (case vh => walk_at "fr"))
  | ((with_reducible refine' w_lenT ?vh ?_); (case vh => walk_at "fr"))))
local macro_rules | `(tactic| walk_at "gr") => `(tactic| first
  | exact Gr.refl _ _
  | assumption
  | exact Gr.wide (by assumption)
  | (refine Gr.trans ?_ (by assumption); walk_at "gr")
  | (refine Gr.trans ?_ (Gr.wide (by assumption)); walk_at "gr"))
local macro_rules | `(tactic| walk_at "s2") => `(tactic| (with_reducible refine Stp.h ?_; with_reducible refine Stp.h ?_))

section
variable {P : Program} {w : World} {K : PySem.W.Frag} {mg : Str → Option Value} {base : Heap}
variable {W : Type} {M : WM W}
def sheetD (z : Str) : PD := match sheetX z with
  | .error k => .int (k : Int)
  | .ok (sets, ps, prog) => .tup [.lst sets, .lst (ps.map .int), .tup prog]
def aSheetSp : ASp W := fun ds w Q _ => ∃ z : Str, ds = [.str z] ∧ z.length ≤ 1000000 ∧ (Txt.split z "\n").length ≤ 40 ∧ Q (sheetD z) w
theorem enumD_range {α : Type} (f : α → PD) (d0 : α) : ∀ (xs : List α) (n : Nat), enumD n (xs.map f) = (List.range xs.length).map fun (i : Nat) => .tup [.int ((n + i : Nat) : Int), f (xs.getD i d0)]
  | [], _ => rfl
  | x :: r, n => by
    rw [List.map_cons, enumD, enumD_range f d0 r (n + 1), List.length_cons, List.range_succ_eq_map, List.map_cons, List.map_map]
    congr 1
    apply List.map_congr_left
    intro i _
    simp only [Function.comp, List.getD_cons_succ]
    rw [show n + 1 + i = n + (i + 1) by omega]
theorem cutD_take {α : Type} (f : α → PD) (xs : List α) (i : Nat) : cutD (xs.map f) none (some (i : Int)) = (xs.take i).map f := by
  unfold cutD
  have e0 : HT.sIx (xs.map f).length (xs.map f).length (some (i : Int)) = min i (xs.map f).length := HT.sIx_nat _ _ i
  rw [e0, HT.sIx_none]
  simp only [Nat.sub_zero, List.drop_zero, List.length_map]
  rw [← List.map_take]
  by_cases h : i ≤ xs.length
  · rw [Nat.min_eq_left h]
  · rw [Nat.min_eq_right (by omega), List.take_length, List.take_of_length_le (by omega)]
theorem cutD_drop {α : Type} (f : α → PD) (xs : List α) (i : Nat) : cutD (xs.map f) (some (i : Int)) none = (xs.drop i).map f := by
  unfold cutD
  have e0 : HT.sIx (xs.map f).length 0 (some (i : Int)) = min i (xs.map f).length := HT.sIx_nat _ _ i
  rw [e0, HT.sIx_none, List.length_map, ← List.map_drop, ← List.map_take]
  congr 1
  by_cases h : i ≤ xs.length
  · rw [Nat.min_eq_left h]
    apply List.take_of_length_le; rw [List.length_drop]; omega
  · rw [List.drop_eq_nil_of_le (show xs.length ≤ i by omega), List.drop_eq_nil_of_le (show xs.length ≤ min i xs.length by omega)]; simp
theorem toPys_ints : ∀ (xs : List Int), toPys (xs.map .int) = some (xs.map .int)
  | [] => rfl
  | x :: r => by rw [List.map_cons, toPys, toPys_ints r]; rfl
theorem lay_ints : ∀ (xs : List Int), PyData.canLayAll0 (xs.map .int) = true
  | [] => by simp [PyData.canLayAll0]
  | x :: r => by rw [List.map_cons, PyData.canLayAll0, lay_ints r]; simp [PyData.canLay0]
theorem depth_ints : ∀ (xs : List Int), PyData.depthAll (xs.map .int) = 0
  | [] => by simp [PyData.depthAll]
  | x :: r => by rw [List.map_cons, PyData.depthAll, depth_ints r]; simp [PyData.depth]
theorem okEq_ints (xs : List Int) : okEq (.lst (xs.map .int)) := by
  refine ⟨.list (xs.map .int), by rw [toPy, toPys_ints]; rfl, ?_⟩
  unfold SeqAt.shaped
  rw [PyData.canLay0, lay_ints, PyData.depth, depth_ints]; rfl
theorem eqD_ints_nil (xs : List Int) : eqD (.lst (xs.map .int)) (.lst []) = xs.isEmpty := by
  unfold eqD
  rw [toPy, toPys_ints, show toPy (.lst []) = some (.list []) from rfl]
  cases xs <;> simp [PyData.eqv, PyData.eqvAll]
def wordIn : PD → Bool
  | .tup (.str s :: _) => inV (.str s) [.str "set", .str "look"]
  | _ => false
theorem find_congr {α : Type} {p q : α → Bool} : ∀ {xs : List α}, (∀ x ∈ xs, p x = q x) → xs.find? p = xs.find? q
  | [], _ => rfl
  | x :: r, h => by
    rw [List.find?_cons, List.find?_cons, h x List.mem_cons_self, find_congr fun y hy => h y (List.mem_cons_of_mem _ hy)]
theorem sc_law_sheet : FnScope ["_law_text", "_law_rows_here", "_law_settings", "_law_first", "_law_bad", "_law_found", "_law_names_here", "_law_name", "_law_value_here", "_law_again", "_law_number", "_law_strange", "_law_depth", "_law_step_here"] ["_law_text"] (defScope s_law_sheet) := ⟨rfl, rfl, rfl, by decide +kernel, rfl, by decide +kernel, by decide +kernel⟩
theorem okd_law_sheet (T : TX K mg) : FnOk P w K mg base CX0 43 T.d_law_sheet.a T.d_law_sheet.d ["_law_text"] (liftSp M K 1 aSheetSp) := by
  refine T.d_law_sheet.F.ok sc_law_sheet (fun vs H Q E h => lift_len h) (fun cdv A outer s H vs Q E hr h => ?_)
  obtain ⟨ds, w, Zf, Zw, AQ, AX, hn, ha, L⟩ := h
  refine ⟨_, (pss_cons (ps_par (i := 1) (j := 2) rfl sc_law_sheet.nd rfl rfl (by decide) rfl rfl (pa_cons (pe_m1 PySem.F.slot_str_split PySem.F.type_str_split mt_splitA (pv 0) pe_str) (pa_cons (pe_lst pa_nil) pa_nil)) (by rfl))
  (pss_cons (ps_while PassesOwn.never (PW.pt (pw_and (pt_cmpR op_lt (pe_callB (call_lenK (K := K) rfl) (by rfl) T.z_len bt_len (pa_cons (pv 2) pa_nil)) (pe_callB (call_lenK (K := K) rfl) (by rfl) T.z_len bt_len (pa_cons (pv 1) pa_nil)) (nomark _)) (pw_and1 (pt_cmp (pc_notN (pe_call (okd_law_setting (M := M) T) (hr.mono (by decide)) (by rfl) T.d_law_setting.g T.d_law_setting.F.kp T.d_law_setting.b .nil pass0 (pa_cons (pe_ix (ix_anyK (K := K) rfl) (pv 1) (pe_callB (call_lenK (K := K) rfl) (by rfl) T.z_len bt_len (pa_cons (pv 2) pa_nil)) (fun _ _ => rfl)) pa_nil))) rfl))))
    (pss_one (ps_expr (pe_bmK (K := K) rfl PySem.F.plainAttrs_list PySem.F.slot_list_append PySem.F.type_list_append mt_append (pv 2) (pa_cons (pe_call (okd_law_setting (M := M) T) (hr.mono (by decide)) (by rfl) T.d_law_setting.g T.d_law_setting.F.kp T.d_law_setting.b .nil pass0 (pa_cons (pe_ix (ix_anyK (K := K) rfl) (pv 1) (pe_callB (call_lenK (K := K) rfl) (by rfl) T.z_len bt_len (pa_cons (pv 2) pa_nil)) (fun _ _ => rfl)) pa_nil)) pa_nil)))))
  (pss_cons (ps_set (i := 3) sc_law_sheet.nd rfl (Or.inr rfl) (pe_callB (call_lenK (K := K) rfl) (by rfl) T.z_len bt_len (pa_cons (pv 2) pa_nil)))
  (pss_cons (ps_if (PW.pt (pw_or (pt_cmpR (op_eqK (K := K) rfl (hu64 hr)) (pv 3) (pe_callB (call_lenK (K := K) rfl) (by rfl) T.z_len bt_len (pa_cons (pv 1) pa_nil)) (nomark _)) (pw_or1 (pt_cmp (pc_isN (pe_call (okd_law_picks (M := M) T) (hr.mono (by decide)) (by rfl) T.d_law_picks.g T.d_law_picks.F.kp T.d_law_picks.b .nil pass0 (pa_cons (pe_ix (ix_anyK (K := K) rfl) (pv 1) (pv 3) (fun _ _ => rfl)) pa_nil))) rfl))))
    (pss_one (ps_ret (pv 3)))
    pss_nil)
  (pss_cons (ps_asg (pe_call (okd_law_read (M := M) T) (hr.mono (by decide)) (by rfl) T.d_law_read.g T.d_law_read.F.kp T.d_law_read.b .nil pass0 (pa_cons (pe_slice (sl_anyK (K := K) rfl) (pv 1) (po_some (pe_op (op_addK (K := K) rfl) (pv 3) pe_int)) po_none) pa_nil)) (pg_tupK (K := K) (n := 2) rfl rfl (pgs_cons (pg_name (i := 4) sc_law_sheet.nd rfl (Or.inl rfl)) (pgs_cons (pg_name (i := 5) sc_law_sheet.nd rfl (Or.inr rfl)) pgs_nil))))
  (pss_cons (ps_if (pt_cmp (pc_notN (pv 4)) rfl)
    (pss_one (ps_ret (pe_op (op_addK (K := K) rfl) (pe_op (op_addK (K := K) rfl) (pv 3) pe_int) (pv 4))))
    pss_nil)
  (pss_cons (ps_set (i := 6) sc_law_sheet.nd rfl (Or.inr rfl) (pe_lc (own := [("_law_name", 7), ("_law_value_here", 8)]) rfl sc_law_sheet.nd (pi_anyK (K := K) rfl (pv 2)) (blkOk_by (N := ["_law_text", "_law_rows_here", "_law_settings", "_law_first", "_law_bad", "_law_found", "_law_names_here", "_law_name", "_law_value_here", "_law_again", "_law_number", "_law_strange", "_law_depth", "_law_step_here"]) (sc := defScope s_law_sheet) (own := [("_law_name", 7), ("_law_value_here", 8)]) (by decide +kernel)) (fun _ _ _ _ _ => (pg_tupK (K := K) (n := 2) rfl rfl (pgs_cons (pg_name (i := 7) sc_law_sheet.nd rfl (Or.inl rfl)) (pgs_cons (pg_name (i := 8) sc_law_sheet.nd rfl (Or.inl rfl)) pgs_nil)))) (fun _ _ _ _ _ => pts_nil) (fun _ _ _ _ _ => (pv 7))))
  (pss_cons (ps_setLc (i := 9) (own := [("_law_number", 10), ("_law_name", 7)]) rfl sc_law_sheet.nd rfl rfl (sw_true rfl rfl rfl (by decide +kernel)) (piK (f := fun K => iEnum K _) (K := K) rfl (pi_enum (by rfl) T.z_enumerate (pa_cons (pv 6) pa_nil))) (blkOk_by (N := ["_law_text", "_law_rows_here", "_law_settings", "_law_first", "_law_bad", "_law_found", "_law_names_here", "_law_name", "_law_value_here", "_law_again", "_law_number", "_law_strange", "_law_depth", "_law_step_here"]) (sc := defScope s_law_sheet) (own := [("_law_number", 10), ("_law_name", 7)]) (by decide +kernel)) (fun _ _ _ _ _ => (pg_tupK (K := K) (n := 2) rfl rfl (pgs_cons (pg_name (i := 10) sc_law_sheet.nd rfl (Or.inl rfl)) (pgs_cons (pg_name (i := 7) sc_law_sheet.nd rfl (Or.inl rfl)) pgs_nil)))) (fun _ _ _ _ _ => pts_one (pt_cmpR (op_inK (K := K) rfl) (pv 7) (pe_slice (sl_anyK (K := K) rfl) (pv 6) po_none (po_some (pv 10))) (by rfl))) (fun _ _ _ _ _ => (pv 10)))
  (pss_cons (ps_setLc (i := 11) (own := [("_law_number", 10), ("_law_depth", 12), ("_law_step_here", 13)]) rfl sc_law_sheet.nd rfl rfl (sw_true rfl rfl rfl (by decide +kernel)) (piK (f := fun K => iEnum K _) (K := K) rfl (pi_enum (by rfl) T.z_enumerate (pa_cons (pv 5) pa_nil))) (blkOk_by (N := ["_law_text", "_law_rows_here", "_law_settings", "_law_first", "_law_bad", "_law_found", "_law_names_here", "_law_name", "_law_value_here", "_law_again", "_law_number", "_law_strange", "_law_depth", "_law_step_here"]) (sc := defScope s_law_sheet) (own := [("_law_number", 10), ("_law_depth", 12), ("_law_step_here", 13)]) (by decide +kernel)) (fun _ _ _ _ _ => (pg_tupK (K := K) (n := 2) rfl rfl (pgs_cons (pg_name (i := 10) sc_law_sheet.nd rfl (Or.inl rfl)) (pgs_cons (pg_tupK (K := K) (n := 2) rfl rfl (pgs_cons (pg_name (i := 12) sc_law_sheet.nd rfl (Or.inl rfl)) (pgs_cons (pg_name (i := 13) sc_law_sheet.nd rfl (Or.inl rfl)) pgs_nil))) pgs_nil)))) (fun _ _ _ _ _ => pts_one (pt_cmpR (op_inK (K := K) rfl) (pe_ix (ix_anyK (K := K) rfl) (pv 13) pe_int (fun _ _ => rfl)) (pe_tup (pa_cons pe_str (pa_cons pe_str pa_nil))) (by rfl))) (fun _ _ _ _ _ => (pv 10)))
  (pss_cons (ps_setLc (i := 11) (own := [("_law_number", 10)]) rfl sc_law_sheet.nd rfl rfl (sw_true rfl rfl rfl (by decide +kernel)) (pi_anyK (K := K) rfl (pv 11)) (blkOk_by (N := ["_law_text", "_law_rows_here", "_law_settings", "_law_first", "_law_bad", "_law_found", "_law_names_here", "_law_name", "_law_value_here", "_law_again", "_law_number", "_law_strange", "_law_depth", "_law_step_here"]) (sc := defScope s_law_sheet) (own := [("_law_number", 10)]) (by decide +kernel)) (fun _ _ _ _ _ => (pg_name (i := 10) sc_law_sheet.nd rfl (Or.inl rfl))) (fun _ _ _ _ _ => pts_one (pt_cmpR (op_ninK (K := K) rfl) (pe_ix (ix_anyK (K := K) rfl) (pe_ix (ix_anyK (K := K) rfl) (pe_ix (ix_anyK (K := K) rfl) (pv 5) (pv 10) (fun _ _ => rfl)) pe_int (fun _ _ => rfl)) pe_int (fun _ _ => rfl)) (pv 6) (by rfl))) (fun _ _ _ _ _ => (pe_op (op_addK (K := K) rfl) (pe_op (op_addK (K := K) rfl) (pv 3) pe_int) (pv 10))))
  (pss_cons (ps_if (pt_cmpR (op_neK (K := K) rfl (hu64 hr)) (pe_op (op_addK (K := K) rfl) (pv 9) (pv 11)) (pe_lst pa_nil) (nomark _))
    (pss_one (ps_ret (pe_ix (ix_anyK (K := K) rfl) (pe_op (op_addK (K := K) rfl) (pv 9) (pv 11)) pe_int (fun _ _ => rfl))))
    pss_nil)
  (pss_one (ps_ret (pe_tup (pa_cons (pv 2) (pa_cons (pe_call (okd_law_picks (M := M) T) (hr.mono (by decide)) (by rfl) T.d_law_picks.g T.d_law_picks.F.kp T.d_law_picks.b .nil pass0 (pa_cons (pe_ix (ix_anyK (K := K) rfl) (pv 1) (pv 3) (fun _ _ => rfl)) pa_nil)) (pa_cons (pe_call (okd_built (M := M) T 40) (hr.mono (by decide)) (by rfl) T.d_law_built.g T.d_law_built.F.kp T.d_law_built.b .nil pass0 (pa_cons (pv 5) (pa_cons pe_int pa_nil))) pa_nil))))))))))))))))), ?_⟩
  refine L.go ?_
  clear L hr
  obtain ⟨z, rfl, hz, hm, q⟩ := ha
  obtain ⟨sne, sl, sm⟩ := split_line z
  refine at_startE [some (.va (.str z)), none, none, none, none, none, none, none, none, none, none, none, none, none] rfl ?_
  walk_at "s"
  have un : sheetD z = match (match (Txt.split z "\n").drop (settingsIn (Txt.split z "\n")).length with
    | [] => (.error (settingsIn (Txt.split z "\n")).length : Except Nat (List PD × List Int × List PD))
    | r :: rs => match picksIn r with
      | none => .error (settingsIn (Txt.split z "\n")).length
      | some ps => match rowsGo rs 0 with
        | none => .error ((settingsIn (Txt.split z "\n")).length + 1 + (rowsBad rs 0).getD 0)
        | some l => match againAt ((settingsIn (Txt.split z "\n")).map nameOf) with
          | some k => .error k
          | none => match strangeAt ((settingsIn (Txt.split z "\n")).map nameOf) l with
            | some k => .error ((settingsIn (Txt.split z "\n")).length + 1 + k)
            | none => .ok (settingsIn (Txt.split z "\n"), ps, (progC l 0).1)) with
    | .error k => .int (k : Int)
    | .ok (sets, ps, prog) => .tup [.lst sets, .lst (ps.map .int), .tup prog] := rfl
  rw [un] at q
  have h1m : ∀ r ∈ Txt.split z (Str.ofString "\n"), r.length ≤ 1000000 := fun r hr => Nat.le_trans (sl r hr) hz
  have hm' : (Txt.split z (Str.ofString "\n")).length ≤ 40 := hm
  clear un sl sm
  generalize Txt.split z (Str.ofString "\n") = rows at *
  refine while_X (fun n e w' => w' = w ∧ ∃ dn : List PD, e = [some (.va (.str z)), some (.va (.lst (rows.map .str))), some (.ow dn), none, none, none, none, none, none, none, none, none, none, none] ∧ n = rows.length - dn.length ∧ dn.length ≤ rows.length ∧ settingsIn rows = dn ++ settingsIn (rows.drop dn.length))
    (fun e w' => w' = w ∧ e = [some (.va (.str z)), some (.va (.lst (rows.map .str))), some (.ow (settingsIn rows)), none, none, none, none, none, none, none, none, none, none, none]) rows.length ?_ ?_ ?_
  · exact ⟨rfl, [], rfl, rfl, Nat.zero_le _, rfl⟩
  · rintro n e w' ⟨rfl, dn, rfl, rfl, hdl, inv⟩
    walk_at "s"
    rw [List.length_map]
    refine iteB (fun h1 => ?_) (fun h1 => ?_)
    · have hk : dn.length < rows.length := by simpa using h1
      obtain ⟨r, hr⟩ : ∃ r, rows[dn.length]? = some r := ⟨rows[dn.length], List.getElem?_eq_getElem hk⟩
      have hdr : rows.drop dn.length = r :: rows.drop (dn.length + 1) := by
        rw [List.drop_eq_getElem_cons hk]; congr 1
        exact (List.getElem?_eq_some_iff.mp hr).2
      have hrl := h1m r (List.mem_of_getElem? hr)
      have hat : atI (rows.map PD.str) (dn.length : Int) = some (.str r) := atI_nat' (by rw [List.getElem?_map, hr]; rfl)
      walk_at "s"
      refine ix_L hat ?_
      walk_at "s"
      rw [setting_alike]
      rw [hdr] at inv
      rcases settingIn_ok r with h2 | ⟨s, v, h2, h3⟩
      · rw [settingsIn_non h2, List.append_nil] at inv
        rw [h2]
        walk_at "s"
        exact ⟨rfl, by rw [inv]⟩
      · rw [settingsIn_tup h2] at inv
        rw [h2]
        have hsz : dn.length < 16000000 := by omega
        walk_at "s"
        refine ix_L hat ?_
        walk_at "s"
        rw [setting_alike, h2]
        exact ⟨rows.length - (dn.length + 1), by omega, rfl, dn ++ [.tup [.str s, v]], rfl, by rw [List.length_append]; rfl, by rw [List.length_append]; exact hk, by rw [inv, List.length_append]; simp⟩
    · have hk : dn.length = rows.length := by have : ¬ ((dn.length : Int) < (rows.length : Int)) := by simpa using h1
                                              omega
      rw [hk, List.drop_length, show settingsIn [] = [] from rfl, List.append_nil] at inv
      walk_at "s"
      exact ⟨rfl, by rw [inv]⟩
  rintro e w' ⟨rfl, rfl⟩
  have hsl := settingsIn_len rows
  have hpo : ∀ d ∈ settingsIn rows, pairOk d := settingsIn_pairs rows
  generalize settingsIn rows = sets at *
  walk_at "s"
  rw [List.length_map]
  cases hdrop : rows.drop sets.length with
  | nil =>
    have hle : rows.length ≤ sets.length := List.drop_eq_nil_iff.mp hdrop
    rw [hdrop] at q
    rw [decide_eq_true (show (sets.length : Int) = (rows.length : Int) by omega)]
    walk_at "s"
    exact q
  | cons r rs =>
    rw [hdrop] at q
    simp only [] at q
    have hslt : sets.length < rows.length := by
      have := congrArg List.length hdrop
      rw [List.length_drop, List.length_cons] at this; omega
    have hrow : rows[sets.length]? = some r := by
      have := congrArg (fun q => q[0]?) hdrop
      simpa using this
    have hrl : r.length ≤ 1000000 := h1m r (List.mem_of_getElem? hrow)
    have hrs : rs = rows.drop (sets.length + 1) := by
      have := congrArg (List.drop 1) hdrop
      rw [List.drop_drop] at this; simpa using this.symm
    have hat : atI (rows.map PD.str) (sets.length : Int) = some (.str r) := atI_nat' (by rw [List.getElem?_map, hrow]; rfl)
    rw [decide_eq_false (show ¬ ((sets.length : Int) = (rows.length : Int)) by omega)]
    walk_at "s"
    refine ix_L hat ?_
    walk_at "s"
    cases hpk : picksIn r with
    | none =>
      rw [hpk] at q
      walk_at "s"
      exact q
    | some ps =>
      rw [hpk] at q
      simp only [] at q
      walk_at "s"
      rw [show (sets.length : Int) + 1 = ((sets.length + 1 : Nat) : Int) by omega, cutD_drop, ← hrs]
      have hrs1 : rs.length ≤ 40 := by rw [hrs, List.length_drop]; omega
      have hrs2 : ∀ x ∈ rs, x.length ≤ 1000000 := fun x hx => h1m x (by rw [hrs] at hx; exact List.mem_of_mem_drop hx)
      have hrs3 : rs.length ≤ 1000 := by omega
      walk_at "s"
      unfold readD
      walk_at "s"
      rw [readGo_fst]
      cases hgo : rowsGo rs 0 with
      | none =>
        obtain ⟨k, hk⟩ := rowsGo_none hgo
        rw [hgo, hk] at q
        rw [hk, show isN (optN (some k)) = false from rfl, show optN (some k) = PD.int (k : Int) from rfl]
        walk_at "s"
        simp only [Option.getD_some] at q
        rw [show (sets.length : Int) + 1 + (k : Int) = ((sets.length + 1 + k : Nat) : Int) by omega]
        exact q
      | some l =>
        have hwide := rowsGo_wide hgo
        rw [hgo] at q
        simp only [] at q
        have hll := rowsGo_len hgo
        rw [rowsBad_some hgo, readGo_snd hgo, show isN (optN none) = true from rfl]
        walk_at "s"
        refine lc_map [some (.va (.str z)), some (.va (.lst (rows.map .str))), some (.va (.lst sets)), some (.va (.int (sets.length : Int))), some (.va .non), some (.va (.lst (l.map entry))), none, none, none, none, none, none, none, none] rfl (fun d => .str (nameOf d)) (by omega) (noOw_dec rfl) (by decide) (fun d hd X hX => ?_) ?_
        · obtain ⟨s, v, rfl⟩ := hpo d hd
          walk_at "s"
          exact hX _ rfl
        have en : sets.map (fun d => PD.str (nameOf d)) = (sets.map nameOf).map .str := by rw [List.map_map]; rfl
        rw [en]
        have hnl : (sets.map nameOf).length = sets.length := List.length_map ..
        generalize hnames : sets.map nameOf = names at *
        walk_at "s"
        rw [enumD_range PD.str ("" : Str) names 0]
        simp only [Nat.zero_add]
        refine lc_filtF [some (.va (.str z)), some (.va (.lst (rows.map .str))), some (.va (.lst sets)), some (.va (.int (sets.length : Int))), some (.va .non), some (.va (.lst (l.map entry))), some (.va (.lst (names.map .str))), none, none, none, none, none, none, none] rfl (fun (i : Nat) => .int (i : Int)) (fun (i : Nat) => decide (names.getD i "" ∈ names.take i)) (by rw [List.length_range]; omega) (noOw_dec rfl) (by decide) (fun i hi X Y hX hY => ?_) ?_
        · walk_at "s"
          rw [cutD_take]
          walk_at "s"
          refine iteB (fun h => ?_) (fun h => ?_)
          · walk_at "s"
            exact hX h _ rfl
          · exact hY h _ rfl
        walk_at "s"
        rw [enumD_range entry (0, PD.non) l 0]
        simp only [Nat.zero_add]
        refine lc_filtF [some (.va (.str z)), some (.va (.lst (rows.map .str))), some (.va (.lst sets)), some (.va (.int (sets.length : Int))), some (.va .non), some (.va (.lst (l.map entry))), some (.va (.lst (names.map .str))), none, none, some (.va (.lst (((List.range names.length).filter fun i => decide (names.getD i "" ∈ names.take i)).map fun (i : Nat) => .int (i : Int)))), none, none, none, none] rfl (fun (i : Nat) => .int (i : Int)) (fun (i : Nat) => wordIn (l.getD i (0, .non)).2) (by rw [List.length_range]; omega) (noOw_dec rfl) (by decide) (fun i hi X Y hX hY => ?_) ?_
        · obtain ⟨⟨dp, st⟩, hp⟩ : ∃ p, l[i]? = some p := ⟨l[i]'(List.mem_range.mp hi), List.getElem?_eq_getElem (List.mem_range.mp hi)⟩
          have hgd : l.getD i (0, PD.non) = (dp, st) := by rw [List.getD_eq_getElem?_getD, hp]; rfl
          have hso := (hwide _ (List.mem_of_getElem? hp)).1
          rw [hgd] at hX hY ⊢
          obtain ⟨_, s, rr, hst, _⟩ := hso
          have hst : st = .tup (.str s :: rr) := hst
          subst hst
          have hw : wordIn (.tup (.str s :: rr)) = decide (s ∈ [("set" : Str), "look"]) := by
            rw [inv_strs]; rfl
          simp only [hw] at hX hY
          unfold entry
          walk_at "s"
          refine iteB (fun h => ?_) (fun h => ?_)
          · walk_at "s"
            exact hX h _ rfl
          · exact hY h _ rfl
        walk_at "s"
        have hlr : ((List.range l.length).filter fun i => wordIn (l.getD i (0, .non)).2).length ≤ 40 := Nat.le_trans (List.length_filter_le _ _) (by rw [List.length_range]; omega)
        refine lc_filtF [some (.va (.str z)), some (.va (.lst (rows.map .str))), some (.va (.lst sets)), some (.va (.int (sets.length : Int))), some (.va .non), some (.va (.lst (l.map entry))), some (.va (.lst (names.map .str))), none, none, some (.va (.lst (((List.range names.length).filter fun i => decide (names.getD i "" ∈ names.take i)).map fun (i : Nat) => .int (i : Int)))), none, some (.va (.lst (((List.range l.length).filter fun i => wordIn (l.getD i (0, .non)).2).map fun (i : Nat) => .int (i : Int)))), none, none] rfl (fun (i : Nat) => .int ((sets.length + 1 + i : Nat) : Int)) (fun (i : Nat) => !stepNamed names (l.getD i (0, .non)).2) (by omega) (noOw_dec rfl) (by decide) (fun i hi X Y hX hY => ?_) ?_
        · obtain ⟨hir, hiw⟩ := List.mem_filter.mp hi
          obtain ⟨⟨dp, st⟩, hp⟩ : ∃ p, l[i]? = some p := ⟨l[i]'(List.mem_range.mp hir), List.getElem?_eq_getElem (List.mem_range.mp hir)⟩
          have hgd : l.getD i (0, PD.non) = (dp, st) := by rw [List.getD_eq_getElem?_getD, hp]; rfl
          obtain ⟨⟨_, s, rr, hst, _⟩, hwd⟩ := hwide _ (List.mem_of_getElem? hp)
          have hst : st = .tup (.str s :: rr) := hst
          subst hst
          rw [hgd] at hX hY hiw
          have hiw' : inV (.str s) [.str "set", .str "look"] = true := hiw
          obtain ⟨n, r', rfl⟩ := hwd s rr rfl hiw'
          have hsn : stepNamed names (.tup (.str s :: .str n :: r')) = decide (n ∈ names) := by
            unfold stepNamed
            simp only []
            rw [if_pos hiw', inv_strs]
          simp only [hsn] at hX hY
          walk_at "s"
          refine ix_L (show atI (l.map entry) (i : Int) = some (.tup [.int dp, .tup (.str s :: .str n :: r')]) from atI_nat' (by rw [List.getElem?_map, hp]; rfl)) ?_
          walk_at "s"
          refine iteB (fun h => ?_) (fun h => ?_)
          · walk_at "s"
            rw [show (sets.length : Int) + 1 + (i : Int) = ((sets.length + 1 + i : Nat) : Int) by omega]
            exact hX h _ rfl
          · exact hY h _ rfl
        have hA : ((List.range names.length).filter fun i => decide (names.getD i "" ∈ names.take i)).head? = againAt names := by rw [List.head?_filter]; rfl
        have hS : (((List.range l.length).filter fun i => wordIn (l.getD i (0, .non)).2).filter fun i => !stepNamed names (l.getD i (0, .non)).2).head? = strangeAt names l := by
          rw [List.filter_filter, List.head?_filter]
          unfold strangeAt firstIx
          apply find_congr
          intro i hi
          obtain ⟨⟨dp, st⟩, hp⟩ : ∃ p, l[i]? = some p := ⟨l[i]'(List.mem_range.mp hi), List.getElem?_eq_getElem (List.mem_range.mp hi)⟩
          have hgd : l.getD i (0, PD.non) = (dp, st) := by rw [List.getD_eq_getElem?_getD, hp]; rfl
          obtain ⟨⟨_, s, rr, hst, _⟩, hwd⟩ := hwide _ (List.mem_of_getElem? hp)
          have hst : st = .tup (.str s :: rr) := hst
          subst hst
          rw [hgd]
          cases hw : wordIn (.tup (.str s :: rr)) with
          | true => simp
          | false =>
            have hw' : inV (.str s) [.str "set", .str "look"] = false := hw
            unfold stepNamed
            simp only [hw']
            rfl
        have hA1 : ((List.range names.length).filter fun i => decide (names.getD i "" ∈ names.take i)).length ≤ 40 := Nat.le_trans (List.length_filter_le _ _) (by rw [List.length_range]; omega)
        have hS1 : (((List.range l.length).filter fun i => wordIn (l.getD i (0, .non)).2).filter fun i => !stepNamed names (l.getD i (0, .non)).2).length ≤ 40 := Nat.le_trans (List.length_filter_le _ _) hlr
        rw [← hA, ← hS] at q
        generalize ((List.range names.length).filter fun i => decide (names.getD i "" ∈ names.take i)) = As at *
        generalize (((List.range l.length).filter fun i => wordIn (l.getD i (0, .non)).2).filter fun i => !stepNamed names (l.getD i (0, .non)).2) = Ss at *
        walk_at "s"
        have ex : (As.map fun (i : Nat) => PD.int (i : Int)) ++ (Ss.map fun (i : Nat) => PD.int ((sets.length + 1 + i : Nat) : Int)) = ((As.map fun (i : Nat) => (i : Int)) ++ (Ss.map fun (i : Nat) => ((sets.length + 1 + i : Nat) : Int))).map .int := by
          rw [List.map_append, List.map_map, List.map_map]; rfl
        rw [ex]
        refine ⟨.inr ⟨okEq_ints _, okEq_ints []⟩, ?_⟩
        rw [show (PD.lst []) = PD.lst (([] : List Int).map .int) from rfl, show (([] : List Int).map PD.int) = [] from rfl, eqD_ints_nil]
        cases As with
        | cons a As' =>
          rw [List.head?_cons] at q
          simp only [List.map_cons, List.cons_append, List.isEmpty_cons] at ex ⊢
          simp only [List.length_cons] at hA1
          walk_at "s"
          rw [List.cons_append]
          walk_at "s"
          exact q
        | nil =>
          rw [List.head?_nil] at q
          cases Ss with
          | cons a Ss' =>
            rw [List.head?_cons] at q
            simp only [List.map_nil, List.nil_append, List.map_cons, List.isEmpty_cons] at ex ⊢
            simp only [List.length_cons] at hS1
            walk_at "s"
            rw [List.nil_append]
            walk_at "s"
            exact q
          | nil =>
            rw [List.head?_nil] at q
            simp only [List.map_nil, List.nil_append, List.isEmpty_nil] at ex ⊢
            walk_at "s"
            refine ix_L hat ?_
            walk_at "s"
            rw [hpk]
            walk_at "s"
            refine ⟨l, 0, rfl, by omega, by omega, fun p hp => (hwide p hp).1, ?_⟩
            obtain ⟨pg, sh, hpg⟩ := rows_shape hgo
            rw [hpg] at q
            unfold builtB
            rw [built_shape sh _ (Nat.le_refl _)]
            walk_at "s"
            exact q
end
end RS
set_option Elab.async false
set_option linter.all false
set_option maxRecDepth 100000
set_option maxHeartbeats 4000000
set_option synthInstance.maxHeartbeats 400000
set_option synthInstance.maxSize 20000

namespace RS
open PySem L2
/-! steps by their heads -/
local macro_rules | `(tactic| walk_at "fr") => `(tactic| first
  | assumption
  | exact SqL.of (by assumption)
  | exact SqT.of (by assumption)
  | exact Or.inl (by assumption)
  | exact Or.inr (by assumption)
  | (refine Gr.get (by assumption) ?_ (by walk_at "nin"); walk_at "fr")
  | (refine Gr.tup (by assumption) _ _ ?_; walk_at "fr")
  | (refine SqL.of ?_; walk_at "fr1")
  | (refine SqT.of ?_; walk_at "fr1")
  | (refine Gr.sqL (by assumption) ?_ (by walk_at "nin"); walk_at "fr")
  | (refine Gr.sqT (by assumption) ?_ (by walk_at "nin"); walk_at "fr")
  | (refine Gr.rep0 (by assumption) ?_; walk_at "fr")
  | (refine Gr.reps0 (by assumption) ?_; walk_at "fr"))
local macro_rules | `(tactic| walk_at "fr1") => `(tactic| first
  | assumption
  | (refine Gr.tup (by assumption) _ _ ?_; walk_at "fr1")
  | (refine Gr.get (by assumption) ?_ (by walk_at "nin"); walk_at "fr1"))
local macro_rules | `(tactic| walk_at "nin") => `(tactic| first
  | exact nin_nil
  | assumption
  | (refine nin_one ?_; walk_at "ne"))
local macro_rules | `(tactic| walk_at "ne") => `(tactic| first
  | assumption
  | exact Ne.symm (by assumption)
  | exact ne_new (by assumption) (by assumption)
  | exact Ne.symm (ne_new (by assumption) (by assumption)))
local macro_rules | `(tactic| walk_at "sz") => `(tactic| first
  | assumption
  | exact rfl
  | omega
  | (simp only [List.length_cons, List.length_nil, List.length_append, List.length_map, CDiv, CDivN, CMul]; omega)
  | decide
  | (constructor <;> first | exact rfl | omega | assumption | (simp only [List.length_cons, List.length_nil, List.length_append, List.length_map]; omega) | decide))
local macro_rules | `(tactic| walk_at "i1") => `(tactic| first
  | ((with_reducible refine' isi_L_list ?vh ?_); (case vh => walk_at "fr"))
  | ((with_reducible refine' isi_T_list ?vh ?_); (case vh => walk_at "fr"))
  | ((with_reducible refine' isi_L_tuple ?vh ?_); (case vh => walk_at "fr"))
  | ((with_reducible refine' isi_T_tuple ?vh ?_); (case vh => walk_at "fr"))
  | ((with_reducible refine' isi_L_str ?vh ?_); (case vh => walk_at "fr"))
  | ((with_reducible refine' isi_T_str ?vh ?_); (case vh => walk_at "fr"))
  | ((with_reducible refine' isi_L_int ?vh ?_); (case vh => walk_at "fr"))
  | ((with_reducible refine' isi_T_int ?vh ?_); (case vh => walk_at "fr"))
  | ((with_reducible refine' isi_L_bool ?vh ?_); (case vh => walk_at "fr"))
  | ((with_reducible refine' isi_T_bool ?vh ?_); (case vh => walk_at "fr")))
local macro_rules | `(tactic| walk_at "s") => `(tactic| repeat (first
  | with_reducible refine Stp.h ?_
  | ((with_reducible refine szc ?_ ?_); walk_at "sz")
  | ((with_reducible refine' w_kTyL ?vh ?_); (case vh => walk_at "fr"))
  | ((with_reducible refine' w_lenL ?vh ?_); (case vh => walk_at "fr"))
  | ((with_reducible refine' w_lenT ?vh ?_); (case vh => walk_at "fr"))))
local macro_rules | `(tactic| walk_at "gr") => `(tactic| first
  | exact Gr.refl _ _
  | assumption
  | exact Gr.wide (by assumption)
  | (refine Gr.trans ?_ (by assumption); walk_at "gr")
  | (refine Gr.trans ?_ (Gr.wide (by assumption)); walk_at "gr"))
local macro_rules | `(tactic| walk_at "s2") => `(tactic| (with_reducible refine Stp.h ?_; with_reducible refine Stp.h ?_))

section
variable {P : Program} {w : World} {K : PySem.W.Frag} {mg : Str → Option Value} {base : Heap}
variable {Ω : Type} {M0 : WM Ω}
theorem lets_nil : Lets [] := fun c h => nomatch h
theorem sum_ones : ∀ (cs : List Nat), (cs.map (Str.length ∘ fun c => (⟨#[c]⟩ : Str))).sum = cs.length
  | [] => rfl
  | a :: r => by rw [List.map_cons, List.sum_cons, sum_ones r, List.length_cons]; show 1 + _ = _; omega
theorem atI_map {α β : Type} {f : α → β} {xs : List α} {v : Int} {x : α} (h : atI xs v = some x) : atI (xs.map f) v = some (f x) := by
  unfold atI at h ⊢
  rw [List.length_map]
  cases hx : ixN xs.length v with
  | none => rw [hx] at h; cases h
  | some i =>
    rw [hx] at h
    simp only [Option.bind_some] at h ⊢
    rw [List.getElem?_map, h]; rfl
/-- so many unlike names -/
def aNames : ASp (BW Ω) := fun ds w Q _ => ∃ (b : Addr) (many : Nat), ds = [.ref b, .int (many : Int)] ∧ w.b = some b ∧ w.n + 100 ≤ 1000000000000 ∧ many ≤ 100 ∧
  ∀ (ns : List Str) (n' : Int), w.n ≤ n' → n' ≤ w.n + 20 → ns.length = many → (∀ s ∈ ns, isName s = true) → ns.Nodup → Q (.lst (ns.map .str)) { w with n := n' }
theorem names_use {b : Addr} {n : Int} {x : Ω} {many : Nat} {Q : PD → BW Ω → Prop} {X : XA (BW Ω)} (h1 : n + 100 ≤ 1000000000000) (h2 : many ≤ 100) (k : ∀ (ns : List Str) (n' : Int), n ≤ n' → n' ≤ n + 20 → ns.length = many → (∀ s ∈ ns, isName s = true) → ns.Nodup → Q (.lst (ns.map .str)) ⟨some b, n', x⟩) : aNames [.ref b, .int (many : Int)] ⟨some b, n, x⟩ Q X :=
  ⟨b, many, rfl, rfl, h1, h2, k⟩
theorem join_stem {cs : List Nat} : TL.tl (PySem.Txt.join "" (cs.map fun c => (⟨#[c]⟩ : Str))) = cs := join_signs cs
theorem sc_law_names : FnScope ["_law_box_here", "_law_many", "_law_letters", "_law_size", "_law_stem", "_law_place", "_law_first", "_law_step_here", "_law_at", "_law_found", "_law_k", "_law_one", "_law_other"] ["_law_box_here", "_law_many"] (defScope s_law_names) := ⟨rfl, rfl, rfl, by decide +kernel, rfl, by decide +kernel, by decide +kernel⟩
theorem okd_law_names (T : TX K mg) : FnOk P w K mg base CX0 2 T.d_law_names.a T.d_law_names.d ["_law_box_here", "_law_many"] (liftSp (boxM M0) K 2 aNames) := by
  refine T.d_law_names.F.ok sc_law_names (fun vs H Q E h => lift_len h) (fun cdv A outer s H vs Q E hr h => ?_)
  obtain ⟨ds, w, Zf, Zw, AQ, AX, hn, ha, L⟩ := h
  refine ⟨_, (pss_cons (ps_asg (pe_tup (pa_cons pe_str (pa_cons (pe_op (op_addK (K := K) rfl) pe_int (pe_call (okd_take (M0 := M0) T) (hr.mono (by decide)) (by rfl) T.d_law_take.g T.d_law_take.F.kp T.d_law_take.b .nil pass0 (pa_cons (pv 0) (pa_cons pe_int pa_nil)))) pa_nil))) (pg_tupK (K := K) (n := 2) rfl rfl (pgs_cons (pg_name (i := 2) sc_law_names.nd rfl (Or.inr rfl)) (pgs_cons (pg_name (i := 3) sc_law_names.nd rfl (Or.inl rfl)) pgs_nil))))
  (pss_cons (ps_set (i := 4) sc_law_names.nd rfl (Or.inl rfl) (pe_m1 PySem.F.slot_str_join PySem.F.type_str_join (mt_joinK (K := K) rfl) pe_str (pe_lc (own := [("_law_place", 5)]) rfl sc_law_names.nd (pi_range1 (by rfl) T.z_range (pa_cons (pe_op op_sub (pv 3) pe_int) pa_nil)) (blkOk_by (N := ["_law_box_here", "_law_many", "_law_letters", "_law_size", "_law_stem", "_law_place", "_law_first", "_law_step_here", "_law_at", "_law_found", "_law_k", "_law_one", "_law_other"]) (sc := defScope s_law_names) (own := [("_law_place", 5)]) (by decide +kernel)) (fun _ _ _ _ _ => (pg_name (i := 5) sc_law_names.nd rfl (Or.inl rfl))) (fun _ _ _ _ _ => pts_nil) (fun _ _ _ _ _ => (pe_ix (ix_anyK (K := K) rfl) (pv 2) (pe_call (okd_take (M0 := M0) T) (hr.mono (by decide)) (by rfl) T.d_law_take.g T.d_law_take.F.kp T.d_law_take.b .nil pass0 (pa_cons (pv 0) (pa_cons pe_int pa_nil))) (fun _ _ => rfl))))))
  (pss_cons (ps_par3 (i := 6) (j := 7) (l := 8) rfl sc_law_names.nd rfl rfl rfl (by decide) (by decide) (by decide) rfl rfl rfl (pa_cons (pe_call (okd_take (M0 := M0) T) (hr.mono (by decide)) (by rfl) T.d_law_take.g T.d_law_take.F.kp T.d_law_take.b .nil pass0 (pa_cons (pv 0) (pa_cons pe_int pa_nil))) (pa_cons (pe_ix (ix_anyK (K := K) rfl) (pe_lst (pa_cons pe_int (pa_cons pe_int (pa_cons pe_int (pa_cons pe_int pa_nil))))) (pe_call (okd_take (M0 := M0) T) (hr.mono (by decide)) (by rfl) T.d_law_take.g T.d_law_take.F.kp T.d_law_take.b .nil pass0 (pa_cons (pv 0) (pa_cons pe_int pa_nil))) (fun _ _ => rfl)) (pa_cons (pe_call (okd_take (M0 := M0) T) (hr.mono (by decide)) (by rfl) T.d_law_take.g T.d_law_take.F.kp T.d_law_take.b .nil pass0 (pa_cons (pv 0) (pa_cons (pe_op op_sub (pv 3) pe_int) pa_nil))) pa_nil))) (by rfl))
  (pss_cons (ps_set (i := 9) sc_law_names.nd rfl (Or.inl rfl) (pe_lst pa_nil))
  (pss_cons (ps_for PassesOwn.never rfl (pi_range1 (by rfl) T.z_range (pa_cons (pv 1) pa_nil)) (pg_name (i := 10) sc_law_names.nd rfl (Or.inl rfl))
    (pss_cons (ps_asg (pe_callB call_divmodA (by rfl) T.z_divmod bt_divmod (pa_cons (pe_op op_mod (pe_op (op_addK (K := K) rfl) (pv 6) (pe_op op_mulA (pv 7) (pv 10))) pe_int) (pa_cons pe_int pa_nil))) (pg_tupK (K := K) (n := 2) rfl rfl (pgs_cons (pg_name (i := 11) sc_law_names.nd rfl (Or.inl rfl)) (pgs_cons (pg_name (i := 12) sc_law_names.nd rfl (Or.inl rfl)) pgs_nil))))
  (pss_one (ps_expr (pe_bmK (K := K) rfl PySem.F.plainAttrs_list PySem.F.slot_list_append PySem.F.type_list_append mt_append (pv 9) (pa_cons (pe_op (op_addK (K := K) rfl) (pe_op (op_addK (K := K) rfl) (pe_op (op_addK (K := K) rfl) (pe_slice (sl_anyK (K := K) rfl) (pv 4) po_none (po_some (pv 8))) (pe_ix (ix_anyK (K := K) rfl) (pv 2) (pv 11) (fun _ _ => rfl))) (pe_ix (ix_anyK (K := K) rfl) (pv 2) (pv 12) (fun _ _ => rfl))) (pe_slice (sl_anyK (K := K) rfl) (pv 4) (po_some (pv 8)) po_none)) pa_nil))))))
  (pss_one (ps_ret (pv 9)))))))), ?_⟩
  refine L.go ?_
  clear L hr
  obtain ⟨w0, n0, x0⟩ := w
  obtain ⟨b, many, rfl, hb, hn2, hm, q⟩ := ha
  obtain rfl : w0 = some b := hb
  dsimp only at hn2 q
  refine at_startE [some (.va (.ref b)), some (.va (.int (many : Int))), none, none, none, none, none, none, none, none, none, none, none] rfl ?_
  walk_at "s"
  refine fun v1 l1 u1 => ?_
  walk_at "s"
  refine lc_inv [some (.va (.ref b)), some (.va (.int (many : Int))), some (.va (.str LETS)), some (.va (.int (2 + v1))), none, none, none, none, none, none, none, none, none] rfl (fun i acc w' => ∃ cs : List Nat, acc = cs.map (fun c => PD.str ⟨#[c]⟩) ∧ cs.length = i ∧ Lets cs ∧ w' = ⟨some b, n0 + 1 + i, x0⟩) ?_ ?_ (noOw_dec rfl) (by decide) (fun i acc w' d => ?_) ?_
  · exact ⟨[], rfl, rfl, lets_nil, by simp⟩
  · simp [intsD]; omega
  · rintro ⟨cs, rfl, hci, hls, rfl⟩ hi hd
    have hi6 : i < 7 := by simp [intsD] at hi; omega
    walk_at "s"
    refine fun v2 l2 u2 => ?_
    refine ix_S (by decide +kernel) (let_at l2 u2) ?_
    refine ⟨rfl, cs ++ [97 + v2.toNat], by rw [List.map_append]; rfl, by rw [List.length_append, hci]; rfl, fun c hc => ?_, ?_⟩
    · rcases List.mem_append.mp hc with hc | hc
      · exact hls c hc
      · rcases List.mem_cons.mp hc with rfl | hc
        · omega
        · exact nomatch hc
    · congr 1; omega
  rintro acc w' ⟨cs, rfl, hcs, hls, rfl⟩
  have hc6 : cs.length ≤ 6 := by rw [hcs]; simp [intsD]; omega
  have hjs : TL.tl (PySem.Txt.join (Str.ofString "") (cs.map fun c => (⟨#[c]⟩ : Str))) = cs := join_signs cs
  walk_at "s"
  refine szc (by rw [List.map_map, show (cs.map (Str.length ∘ fun c => (⟨#[c]⟩ : Str))).sum = cs.length from sum_ones cs, List.length_map, show (Str.ofString "").length = 0 by decide +kernel]; omega) ?_
  generalize PySem.Txt.join (Str.ofString "") (cs.map fun c => (⟨#[c]⟩ : Str)) = stem at *
  subst hjs
  have hst : stem.length ≤ 6 := by rw [TL.len_tl]; exact hc6
  have hlen : (intsD 0 (2 + v1 - 2).toNat).length ≤ 6 := by simp [intsD]; omega
  generalize (intsD 0 (2 + v1 - 2).toNat).length = g at *
  have hg0 : (0 : Int) ≤ (g : Int) := Int.natCast_nonneg g
  walk_at "s"
  refine fun first l3 u3 => ?_
  walk_at "s"
  refine fun v5 l5 u5 => ?_
  obtain ⟨step, hst0, hat⟩ : ∃ step : Int, (step = 1 ∨ step = 27 ∨ step = 5 ∨ step = 251) ∧ atI [PD.int 1, PD.int 27, PD.int 5, PD.int 251] v5 = some (PD.int step) := by
    have : v5 = 0 ∨ v5 = 1 ∨ v5 = 2 ∨ v5 = 3 := by omega
    rcases this with rfl | rfl | rfl | rfl
    · exact ⟨1, by decide, rfl⟩
    · exact ⟨27, by decide, rfl⟩
    · exact ⟨5, by decide, rfl⟩
    · exact ⟨251, by decide, rfl⟩
  refine ix_L hat ?_
  walk_at "s"
  refine fun v6 l6 u6 => ?_
  obtain ⟨a, rfl⟩ : ∃ a : Nat, v6 = (a : Int) := ⟨v6.toNat, by omega⟩
  walk_at "s"
  refine for_D (fun i e w' => w' = ⟨some b, n0 + 1 + (g : Int) + 1 + 1 + 1, x0⟩ ∧ ∃ s10 s11 s12 : Option PD, e = [some (.va (.ref b)), some (.va (.int (many : Int))), some (.va (.str LETS)), some (.va (.int (2 + v1))), some (.va (.str stem)), none, some (.va (.int first)), some (.va (.int step)), some (.va (.int (a : Int))), some (.ow ((namesOf stem a first step i).map .str)), s10.map .va, s11.map .va, s12.map .va]) ?_ ?_ ?_
  · exact ⟨rfl, none, none, none, rfl⟩
  · rintro i e w' d ⟨rfl, s10, s11, s12, rfl⟩ hi hd
    have hi' : i < many := by simpa [intsD] using hi
    have hd' : d = .int (0 + (i : Int)) := by
      have := (List.getElem?_eq_some_iff.mp hd).2
      rw [← this]; simp [intsD]
    subst hd'
    have hcm : CMul step (0 + (i : Int)) := by unfold CMul; left; omega
    walk_at "s"
    obtain ⟨v, hv⟩ : ∃ v, v = (first + step * (0 + (i : Int))) % 676 := ⟨_, rfl⟩
    rw [← hv]
    have hv0 : 0 ≤ v := by omega
    have hv1 : v < 676 := by omega
    have l1' : (cutS stem none (some (a : Int))).length ≤ 6 := Nat.le_trans (cutS_len _ _ _) hst
    have l2' : (cutS stem (some (a : Int)) none).length ≤ 6 := Nat.le_trans (cutS_len _ _ _) hst
    have lc : ∀ c : Nat, (⟨#[c]⟩ : Str).length = 1 := fun c => rfl
    have la := len_app
    walk_at "s"
    refine ix_S (by decide +kernel) (let_at (v := v / 26) (by omega) (by omega)) ?_
    walk_at "s"
    refine szc (by rw [lc]; omega) ?_
    walk_at "s"
    refine ix_S (by decide +kernel) (let_at (v := v % 26) (by omega) (by omega)) ?_
    walk_at "s"
    refine szc (by rw [la, lc, lc]; omega) ?_
    walk_at "s"
    refine szc (by rw [la, la, lc, lc]; omega) ?_
    have hnl : ((namesOf stem a first step i).map PD.str).length < 16000000 := by rw [List.length_map]; unfold namesOf; rw [List.length_map, List.length_range]; omega
    walk_at "s"
    refine ⟨rfl, some (.int (0 + (i : Int))), some (.int (v / 26)), some (.int (v % 26)), ?_⟩
    have e1 : namesOf stem a first step (i + 1) = namesOf stem a first step i ++ [nameAt stem (a : Int) v] := by
      unfold namesOf
      rw [List.range_succ, List.map_append, hv]
      simp
    rw [e1, List.map_append]
    rfl
  · rintro e w' ⟨rfl, s10, s11, s12, rfl⟩
    have e1 : (intsD 0 ((many : Nat) : Int).toNat).length = many := by simp [intsD]
    rw [e1]
    walk_at "s"
    refine q (namesOf stem a first step many) _ (by omega) (by omega) (by unfold namesOf; rw [List.length_map, List.length_range]) (namesOf_name hls hc6) (namesOf_nodup hst0 hm)
/-- a value -/
def aValue : ASp (BW Ω) := fun ds w Q _ => ∃ b : Addr, ds = [.ref b] ∧ w.b = some b ∧ w.n + 100 ≤ 1000000000000 ∧ ∀ (d : PD) (n' : Int), w.n ≤ n' → n' ≤ w.n + 50 → wfVal d → Q d { w with n := n' }
def kkVal (n : Int) (R : PD → Int → Prop) : Prop := ∀ (d : PD) (n' : Int), n ≤ n' → n' ≤ n + 50 → wfVal d → R d n'
instance {b : Addr} {n : Int} {x : Ω} {Q : PD → BW Ω → Prop} {X : XA (BW Ω)} : Stp (aValue [.ref b] ⟨some b, n, x⟩ Q X) (SzC (n + 100 ≤ 1000000000000) ∧ kkVal n fun d n' => Q d ⟨some b, n', x⟩) := ⟨fun h => ⟨b, rfl, rfl, h.1, h.2⟩⟩
abbrev SIGNS : Str := " !\"#$&'()*+,-./0123456789:;<=>?@ABCDEFGHIJKLMNOPQRSTUVWXYZ[\\]^_`abcdefghijklmnopqrstuvwxyz{|}~"
abbrev ODD : List Str := ["", "0", "-1", "a", "none", "'", "\\", " "]
theorem odd_ok : ∀ x ∈ ODD, wfVal (.str x) := by
  intro x hx
  have h : ODD.all (fun x => decide ((TL.tl x).length ≤ 40) && (TL.tl x).all fun c => decide (32 ≤ c) && decide (c ≤ 126)) = true := by decide +kernel
  have := List.all_eq_true.mp h x hx
  simp only [Bool.and_eq_true, decide_eq_true_eq, List.all_eq_true] at this
  exact this
theorem signs_len : SIGNS.length = 94 := by decide +kernel
theorem sign_at {v : Int} (h0 : 0 ≤ v) (h1 : v < 94) : ∃ c, atI SIGNS.cps.toList v = some c ∧ 32 ≤ c ∧ c ≤ 126 := by
  have hl : SIGNS.cps.toList.length = 94 := by decide +kernel
  have ha : (SIGNS.cps.toList.all fun c => decide (32 ≤ c) && decide (c ≤ 126)) = true := by decide +kernel
  obtain ⟨c, hc, hat⟩ := atI_mem (xs := SIGNS.cps.toList) h0 (by rw [hl]; exact h1)
  have := List.all_eq_true.mp ha c hc
  simp only [Bool.and_eq_true, decide_eq_true_eq] at this
  exact ⟨c, hat, this⟩
theorem cpow_30 : CPow 10 30 := by unfold CPow; decide
theorem cpow_29 : CPow 10 29 := by unfold CPow; decide
theorem sc_law_value : FnScope ["_law_box_here", "_law_way", "_law_signs", "_law_place"] ["_law_box_here"] (defScope s_law_value) := ⟨rfl, rfl, rfl, by decide +kernel, rfl, by decide +kernel, by decide +kernel⟩
theorem okd_law_value (T : TX K mg) : FnOk P w K mg base CX0 2 T.d_law_value.a T.d_law_value.d ["_law_box_here"] (liftSp (boxM M0) K 1 aValue) := by
  refine T.d_law_value.F.ok sc_law_value (fun vs H Q E h => lift_len h) (fun cdv A outer s H vs Q E hr h => ?_)
  obtain ⟨ds, w, Zf, Zw, AQ, AX, hn, ha, L⟩ := h
  refine ⟨_, (pss_cons (ps_set (i := 1) sc_law_value.nd rfl (Or.inl rfl) (pe_call (okd_take (M0 := M0) T) (hr.mono (by decide)) (by rfl) T.d_law_take.g T.d_law_take.F.kp T.d_law_take.b .nil pass0 (pa_cons (pv 0) (pa_cons pe_int pa_nil))))
  (pss_cons (ps_if (pt_cmpR op_lt (pv 1) pe_int (nomark _))
    (pss_one (ps_ret (pe_op op_sub (pe_call (okd_take (M0 := M0) T) (hr.mono (by decide)) (by rfl) T.d_law_take.g T.d_law_take.F.kp T.d_law_take.b .nil pass0 (pa_cons (pv 0) (pa_cons pe_int pa_nil))) pe_int)))
    pss_nil)
  (pss_cons (ps_if (pt_cmpR (op_eqK (K := K) rfl (hu64 hr)) (pv 1) pe_int (nomark _))
    (pss_one (ps_ret (pe_ix (ix_anyK (K := K) rfl) (pe_lst (pa_cons (pe_op op_sub (pe_op op_pow pe_int pe_int) pe_int) (pa_cons (pe_op op_sub pe_int (pe_op op_pow pe_int pe_int)) (pa_cons (pe_op op_pow pe_int pe_int) (pa_cons pe_int pa_nil))))) (pe_call (okd_take (M0 := M0) T) (hr.mono (by decide)) (by rfl) T.d_law_take.g T.d_law_take.F.kp T.d_law_take.b .nil pass0 (pa_cons (pv 0) (pa_cons pe_int pa_nil))) (fun _ _ => rfl))))
    pss_nil)
  (pss_cons (ps_if (pt_cmpR (op_eqK (K := K) rfl (hu64 hr)) (pv 1) pe_int (nomark _))
    (pss_one (ps_ret (pe_ix (ix_anyK (K := K) rfl) (pe_lst (pa_cons pe_str (pa_cons pe_str (pa_cons pe_str (pa_cons pe_str (pa_cons pe_str (pa_cons pe_str (pa_cons pe_str (pa_cons pe_str pa_nil))))))))) (pe_call (okd_take (M0 := M0) T) (hr.mono (by decide)) (by rfl) T.d_law_take.g T.d_law_take.F.kp T.d_law_take.b .nil pass0 (pa_cons (pv 0) (pa_cons pe_int pa_nil))) (fun _ _ => rfl))))
    pss_nil)
  (pss_cons (ps_set (i := 2) sc_law_value.nd rfl (Or.inr rfl) pe_str)
  (pss_one (ps_ret (pe_m1 PySem.F.slot_str_join PySem.F.type_str_join (mt_joinK (K := K) rfl) pe_str (pe_lc (own := [("_law_place", 3)]) rfl sc_law_value.nd (pi_range1 (by rfl) T.z_range (pa_cons (pe_call (okd_take (M0 := M0) T) (hr.mono (by decide)) (by rfl) T.d_law_take.g T.d_law_take.F.kp T.d_law_take.b .nil pass0 (pa_cons (pv 0) (pa_cons (pe_ifExp (pt_cmpR (op_eqK (K := K) rfl (hu64 hr)) (pv 1) pe_int (nomark _)) pe_int pe_int) pa_nil))) pa_nil)) (blkOk_by (N := ["_law_box_here", "_law_way", "_law_signs", "_law_place"]) (sc := defScope s_law_value) (own := [("_law_place", 3)]) (by decide +kernel)) (fun _ _ _ _ _ => (pg_name (i := 3) sc_law_value.nd rfl (Or.inl rfl))) (fun _ _ _ _ _ => pts_nil) (fun _ _ _ _ _ => (pe_ix (ix_anyK (K := K) rfl) (pv 2) (pe_call (okd_take (M0 := M0) T) (hr.mono (by decide)) (by rfl) T.d_law_take.g T.d_law_take.F.kp T.d_law_take.b .nil pass0 (pa_cons (pv 0) (pa_cons (pe_callB (call_lenK (K := K) rfl) (by rfl) T.z_len bt_len (pa_cons (pv 2) pa_nil)) pa_nil))) (fun _ _ => rfl)))))))))))), ?_⟩
  refine L.go ?_
  clear L hr
  obtain ⟨w0, n0, x0⟩ := w
  obtain ⟨b, rfl, hb, hn2, q⟩ := ha
  obtain rfl : w0 = some b := hb
  dsimp only at hn2 q
  refine at_startE [some (.va (.ref b)), none, none, none] rfl ?_
  walk_at "s"
  refine fun way l0 u0 => ?_
  walk_at "s"
  refine iteB (fun h1 => ?_) (fun h1 => ?_)
  · walk_at "s"
    refine fun v1 l1 u1 => ?_
    walk_at "s"
    exact q (.int _) _ (by omega) (by omega) ⟨by omega, by omega⟩
  walk_at "s"
  refine iteB (fun h2 => ?_) (fun h2 => ?_)
  · walk_at "s"
    refine fun v1 l1 u1 => ?_
    obtain ⟨i, hat, hi⟩ : ∃ i : Int, atI [PD.int (10 ^ Int.toNat 30 - 1), PD.int (1 - 10 ^ Int.toNat 30), PD.int (10 ^ Int.toNat 29), PD.int 0] v1 = some (.int i) ∧ -(10 ^ 30) < i ∧ i < 10 ^ 30 := by
      have : v1 = 0 ∨ v1 = 1 ∨ v1 = 2 ∨ v1 = 3 := by omega
      rcases this with rfl | rfl | rfl | rfl
      · exact ⟨10 ^ 30 - 1, rfl, by decide⟩
      · exact ⟨1 - 10 ^ 30, rfl, by decide⟩
      · exact ⟨10 ^ 29, rfl, by decide⟩
      · exact ⟨0, rfl, by decide⟩
    refine ix_L hat ?_
    walk_at "s"
    exact q (.int i) _ (by omega) (by omega) hi
  walk_at "s"
  refine iteB (fun h3 => ?_) (fun h3 => ?_)
  · walk_at "s"
    refine fun v1 l1 u1 => ?_
    obtain ⟨x, hx, hat⟩ := atI_mem (xs := ODD) l1 u1
    refine ix_L (atI_map (f := PD.str) hat) ?_
    walk_at "s"
    exact q (.str x) _ (by omega) (by omega) (odd_ok x hx)
  walk_at "s"
  refine ife_join (.int (if way = 4 then 4 else 41)) (fun h Q hq => ?_) (fun h Q hq => ?_) ?_
  · rw [if_pos (of_decide_eq_true h)] at hq; walk_at "s"; exact hq
  · rw [if_neg (of_decide_eq_false h)] at hq; walk_at "s"; exact hq
  obtain ⟨top, ht⟩ : ∃ top : Int, top = if way = 4 then 4 else 41 := ⟨_, rfl⟩
  have ht1 : 0 < top ∧ top ≤ 41 := by rw [ht]; split <;> decide
  rw [← ht]
  walk_at "s"
  refine fun v1 l1 u1 => ?_
  walk_at "s"
  have hsl : SIGNS.length ≤ 16777216 := by rw [signs_len]; decide
  refine lc_inv [some (.va (.ref b)), some (.va (.int way)), some (.va (.str SIGNS)), none] rfl (fun i acc w' => ∃ cs : List Nat, acc = cs.map (fun c => PD.str ⟨#[c]⟩) ∧ cs.length = i ∧ (∀ c ∈ cs, 32 ≤ c ∧ c ≤ 126) ∧ w' = ⟨some b, n0 + 1 + 1 + i, x0⟩) ?_ ?_ (noOw_dec rfl) (by decide) (fun i acc w' d => ?_) ?_
  · exact ⟨[], rfl, rfl, (fun c h => nomatch h), by simp⟩
  · simp [intsD]; omega
  · rintro ⟨cs, rfl, hci, hls, rfl⟩ hi hd
    have hi6 : i < 41 := by simp [intsD] at hi; omega
    walk_at "s"
    rw [signs_len]
    refine fun v2 l2 u2 => ?_
    obtain ⟨c, hat, hc⟩ := sign_at l2 u2
    refine ix_S hsl hat ?_
    refine ⟨rfl, cs ++ [c], by rw [List.map_append]; rfl, by rw [List.length_append, hci]; rfl, fun c' hc' => ?_, ?_⟩
    · rcases List.mem_append.mp hc' with h | h
      · exact hls c' h
      · rcases List.mem_cons.mp h with rfl | h
        · exact hc
        · exact nomatch h
    · congr 1; omega
  rintro acc w' ⟨cs, rfl, hcs, hls, rfl⟩
  have hc6 : cs.length ≤ 40 := by rw [hcs]; simp [intsD]; omega
  have hjs : TL.tl (PySem.Txt.join (Str.ofString "") (cs.map fun c => (⟨#[c]⟩ : Str))) = cs := join_signs cs
  walk_at "s"
  refine szc (by rw [List.map_map, show (cs.map (Str.length ∘ fun c => (⟨#[c]⟩ : Str))).sum = cs.length from sum_ones cs, List.length_map, show (Str.ofString "").length = 0 by decide +kernel]; omega) ?_
  walk_at "s"
  exact q (.str _) _ (by omega) (by omega) ⟨by rw [hjs]; exact hc6, by rw [hjs]; exact hls⟩
end
end RS
set_option Elab.async false
set_option linter.all false
set_option maxRecDepth 100000
set_option maxHeartbeats 4000000
set_option synthInstance.maxHeartbeats 400000
set_option synthInstance.maxSize 20000

namespace RS
open PySem L2
/-! steps by their heads -/
local macro_rules | `(tactic| walk_at "fr") => `(tactic| first
  | assumption
  | exact SqL.of (by assumption)
  | exact SqT.of (by assumption)
  | exact Or.inl (by assumption)
  | exact Or.inr (by assumption)
  | (refine Gr.get (by assumption) ?_ (by walk_at "nin"); walk_at "fr")
  | (refine Gr.tup (by assumption) _ _ ?_; walk_at "fr")
  | (refine SqL.of ?_; walk_at "fr1")
  | (refine SqT.of ?_; walk_at "fr1")
  | (refine Gr.sqL (by assumption) ?_ (by walk_at "nin"); walk_at "fr")
  | (refine Gr.sqT (by assumption) ?_ (by walk_at "nin"); walk_at "fr")
  | (refine Gr.rep0 (by assumption) ?_; walk_at "fr")
  | (refine Gr.reps0 (by assumption) ?_; walk_at "fr"))
local macro_rules | `(tactic| walk_at "fr1") => `(tactic| first
  | assumption
  | (refine Gr.tup (by assumption) _ _ ?_; walk_at "fr1")
  | (refine Gr.get (by assumption) ?_ (by walk_at "nin"); walk_at "fr1"))
local macro_rules | `(tactic| walk_at "nin") => `(tactic| first
  | exact nin_nil
  | assumption
  | (refine nin_one ?_; walk_at "ne"))
local macro_rules | `(tactic| walk_at "ne") => `(tactic| first
  | assumption
  | exact Ne.symm (by assumption)
  | exact ne_new (by assumption) (by assumption)
  | exact Ne.symm (ne_new (by assumption) (by assumption)))
local macro_rules | `(tactic| walk_at "sz") => `(tactic| first
  | assumption
  | exact rfl
  | omega
  | (simp only [List.length_cons, List.length_nil, List.length_append, List.length_map, CDiv, CDivN, CMul]; omega)
  | decide
  | (constructor <;> first | exact rfl | omega | assumption | (simp only [List.length_cons, List.length_nil, List.length_append, List.length_map]; omega) | decide))
local macro_rules | `(tactic| walk_at "i1") => `(tactic| first
  | ((with_reducible refine' isi_L_list ?vh ?_); (case vh => walk_at "fr"))
  | ((with_reducible refine' isi_T_list ?vh ?_); (case vh => walk_at "fr"))
  | ((with_reducible refine' isi_L_tuple ?vh ?_); (case vh => walk_at "fr"))
  | ((with_reducible refine' isi_T_tuple ?vh ?_); (case vh => walk_at "fr"))
  | ((with_reducible refine' isi_L_str ?vh ?_); (case vh => walk_at "fr"))
  | ((with_reducible refine' isi_T_str ?vh ?_); (case vh => walk_at "fr"))
  | ((with_reducible refine' isi_L_int ?vh ?_); (case vh => walk_at "fr"))
  | ((with_reducible refine' isi_T_int ?vh ?_); (case vh => walk_at "fr"))
  | ((with_reducible refine' isi_L_bool ?vh ?_); (case vh => walk_at "fr"))
  | ((with_reducible refine' isi_T_bool ?vh ?_); (case vh => walk_at "fr")))
local macro_rules | `(tactic| walk_at "s") => `(tactic| repeat (first
  | with_reducible refine Stp.h ?_
  | ((with_reducible refine szc ?_ ?_); walk_at "sz")
  | ((with_reducible refine' w_kTyL ?vh ?_); (case vh => walk_at "fr"))
  | ((with_reducible refine' w_lenL ?vh ?_); (case vh => walk_at "fr"))
  | ((with_reducible refine' w_lenT ?vh ?_); (case vh => walk_at "fr"))))
local macro_rules | `(tactic| walk_at "gr") => `(tactic| first
  | exact Gr.refl _ _
  | assumption
  | exact Gr.wide (by assumption)
  | (refine Gr.trans ?_ (by assumption); walk_at "gr")
  | (refine Gr.trans ?_ (Gr.wide (by assumption)); walk_at "gr"))
local macro_rules | `(tactic| walk_at "s2") => `(tactic| (with_reducible refine Stp.h ?_; with_reducible refine Stp.h ?_))

section
variable {P : Program} {w : World} {K : PySem.W.Frag} {mg : Str → Option Value} {base : Heap}
variable {Ω : Type} {M0 : WM Ω}
theorem inb_in {r : List PD} : inBlocks (.tup (.str "in" :: r)) = true := (show inV (V.str "in") blocks = true by decide +kernel)
theorem inb_look {r : List PD} : inBlocks (.tup (.str "look" :: r)) = false := (show inV (V.str "look") blocks = false by decide +kernel)
theorem inb_back {r : List PD} : inBlocks (.tup (.str "back" :: r)) = false := (show inV (V.str "back") blocks = false by decide +kernel)
theorem inb_copy {r : List PD} : inBlocks (.tup (.str "copy" :: r)) = false := (show inV (V.str "copy") blocks = false by decide +kernel)
theorem inb_set {r : List PD} : inBlocks (.tup (.str "set" :: r)) = false := (show inV (V.str "set") blocks = false by decide +kernel)
def aProg (k : Nat) : ASp (BW Ω) := fun ds w Q _ => ∃ (b : Addr) (nm sl : List Str) (many : Nat), ds = [.ref b, .lst (nm.map .str), .lst (sl.map .str), .int (many : Int), .int (k : Int)] ∧ w.b = some b ∧ w.n + 200 * many + 300 ≤ 1000000000000 ∧ many ≤ 200 ∧
  nm ≠ [] ∧ nm.length ≤ 1000 ∧ sl ≠ [] ∧ sl.length ≤ 1000 ∧ (∀ s ∈ sl, isName s = true) ∧ ∀ (p : List PD) (n' : Int), w.n ≤ n' → n' ≤ w.n + 200 * many → WfP nm k many p → Q (.tup p) { w with n := n' }
def aProgV : Nat → ASp (BW Ω)
  | 0 => fun _ _ _ _ => False
  | j + 1 => aProg j
theorem sc_law_program : FnScope ["_law_box_here", "_law_names_here", "_law_slots", "_law_many", "_law_blocks", "_law_steps", "_law_way", "_law_name", "_law_slot", "_law_inner", "_law_within", "_law_rows_here"] ["_law_box_here", "_law_names_here", "_law_slots", "_law_many", "_law_blocks"] (defScope s_law_program) := ⟨rfl, rfl, rfl, by decide +kernel, rfl, by decide +kernel, by decide +kernel⟩
theorem program_turn (T : TX K mg) (k : Nat) (IH : FnOk P w K mg base CX0 (k + 3) T.d_law_program.a T.d_law_program.d ["_law_box_here", "_law_names_here", "_law_slots", "_law_many", "_law_blocks"] (liftSp (boxM M0) K 5 (aProgV k))) :
    FnOk P w K mg base CX0 (k + 1 + 3) T.d_law_program.a T.d_law_program.d ["_law_box_here", "_law_names_here", "_law_slots", "_law_many", "_law_blocks"] (liftSp (boxM M0) K 5 (aProg k)) := by
  refine T.d_law_program.F.ok sc_law_program (fun vs H Q E h => lift_len h) (fun cdv A outer s H vs Q E hr h => ?_)
  obtain ⟨ds, ⟨w0, n0, x0⟩, Zf, Zw, AQ, AX, hn, ⟨b, nm, sl, many, rfl, hb, hn2, hm, hnm, hnml, hsl, hsll, hsn, q⟩, L⟩ := h
  refine ⟨_, (pss_cons (ps_set (i := 5) sc_law_program.nd rfl (Or.inl rfl) (pe_lst pa_nil))
  (pss_cons (ps_while PassesOwn.never (pt_cmpR op_gt (pv 3) pe_int (nomark _))
    (pss_cons (ps_par (i := 6) (j := 3) rfl sc_law_program.nd rfl rfl (by decide) rfl rfl (pa_cons (pe_call (okd_take (M0 := M0) T) (hr.mono (by omega)) (by rfl) T.d_law_take.g T.d_law_take.F.kp T.d_law_take.b .nil pass0 (pa_cons (pv 0) (pa_cons pe_int pa_nil))) (pa_cons (pe_op op_sub (pv 3) pe_int) pa_nil)) (by rfl))
  (pss_cons (ps_par (i := 7) (j := 8) rfl sc_law_program.nd rfl rfl (by decide) rfl rfl (pa_cons (pe_ix (ix_anyK (K := K) rfl) (pv 1) (pe_call (okd_take (M0 := M0) T) (hr.mono (by omega)) (by rfl) T.d_law_take.g T.d_law_take.F.kp T.d_law_take.b .nil pass0 (pa_cons (pv 0) (pa_cons (pe_callB (call_lenK (K := K) rfl) (by rfl) T.z_len bt_len (pa_cons (pv 1) pa_nil)) pa_nil))) (fun _ _ => rfl)) (pa_cons (pe_ix (ix_anyK (K := K) rfl) (pv 2) (pe_call (okd_take (M0 := M0) T) (hr.mono (by omega)) (by rfl) T.d_law_take.g T.d_law_take.F.kp T.d_law_take.b .nil pass0 (pa_cons (pv 0) (pa_cons (pe_callB (call_lenK (K := K) rfl) (by rfl) T.z_len bt_len (pa_cons (pv 2) pa_nil)) pa_nil))) (fun _ _ => rfl)) pa_nil)) (by rfl))
  (pss_one (ps_if (PW.pt (pw_and (pt_cmpR op_lt (pv 6) pe_int (nomark _)) (pw_and1 (pt_cmpR op_gt (pv 4) pe_int (nomark _)))))
    (pss_cons (ps_set (i := 9) sc_law_program.nd rfl (Or.inl rfl) (pe_call (okd_take (M0 := M0) T) (hr.mono (by omega)) (by rfl) T.d_law_take.g T.d_law_take.F.kp T.d_law_take.b .nil pass0 (pa_cons (pv 0) (pa_cons (pe_op (op_addK (K := K) rfl) (pv 3) pe_int) pa_nil))))
  (pss_cons (ps_par (i := 10) (j := 3) rfl sc_law_program.nd rfl rfl (by decide) rfl rfl (pa_cons (pe_call IH hr (by rfl) T.d_law_program.g T.d_law_program.F.kp T.d_law_program.b .nil pass0 (pa_cons (pv 0) (pa_cons (pv 1) (pa_cons (pv 2) (pa_cons (pv 9) (pa_cons (pe_op op_sub (pv 4) pe_int) pa_nil)))))) (pa_cons (pe_op op_sub (pv 3) (pv 9)) pa_nil)) (by rfl))
  (pss_one (ps_expr (pe_bmK (K := K) rfl PySem.F.plainAttrs_list PySem.F.slot_list_append PySem.F.type_list_append mt_append (pv 5) (pa_cons (pe_ix (ix_anyK (K := K) rfl) (pe_lst (pa_cons (pe_tup (pa_cons pe_str (pa_cons (pv 10) pa_nil))) (pa_cons (pe_tup (pa_cons pe_str (pa_cons (pv 10) pa_nil))) (pa_cons (pe_tup (pa_cons pe_str (pa_cons (pv 8) (pa_cons (pv 10) pa_nil)))) pa_nil)))) (pe_ix (ix_anyK (K := K) rfl) (pe_lst (pa_cons pe_int (pa_cons pe_int (pa_cons pe_int (pa_cons pe_int (pa_cons pe_int pa_nil)))))) (pv 6) (fun _ _ => rfl)) (fun _ _ => rfl)) pa_nil))))))
    (pss_one (ps_if (pt_cmpR op_lt (pv 6) pe_int (nomark _))
    (pss_one (ps_expr (pe_bmK (K := K) rfl PySem.F.plainAttrs_list PySem.F.slot_list_append PySem.F.type_list_append mt_append (pv 5) (pa_cons (pe_tup (pa_cons pe_str (pa_cons (pv 7) (pa_cons (pe_call (okd_law_value (M0 := M0) T) (hr.mono (by omega)) (by rfl) T.d_law_value.g T.d_law_value.F.kp T.d_law_value.b .nil pass0 (pa_cons (pv 0) pa_nil)) (pa_cons (pv 8) pa_nil))))) pa_nil))))
    (pss_cons (ps_set (i := 11) sc_law_program.nd rfl (Or.inl rfl) (pe_lst (pa_cons (pe_tup (pa_cons pe_str (pa_cons (pv 7) pa_nil))) (pa_cons (pe_tup (pa_cons pe_str (pa_cons (pv 7) pa_nil))) (pa_cons (pe_tup (pa_cons pe_str (pa_cons (pv 8) pa_nil))) (pa_cons (pe_tup (pa_cons pe_str (pa_cons (pv 8) pa_nil))) (pa_cons (pe_tup (pa_cons pe_str (pa_cons (pv 8) pa_nil))) (pa_cons (pe_tup (pa_cons pe_str pa_nil)) pa_nil))))))))
  (pss_one (ps_expr (pe_bmK (K := K) rfl PySem.F.plainAttrs_list PySem.F.slot_list_append PySem.F.type_list_append mt_append (pv 5) (pa_cons (pe_ix (ix_anyK (K := K) rfl) (pv 11) (pe_op op_mod (pe_op op_sub (pv 6) pe_int) pe_int) (fun _ _ => rfl)) pa_nil))))))))))))
  (pss_one (ps_ret (pe_callTy (call_tupK (K := K) rfl) (by rfl) T.z_tuple bt_tuple (pa_cons (pv 5) pa_nil)))))), ?_⟩
  refine L.go ?_
  clear L hr
  obtain rfl : w0 = some b := hb
  dsimp only at hn2 q
  refine at_startE [some (.va (.ref b)), some (.va (.lst (nm.map .str))), some (.va (.lst (sl.map .str))), some (.va (.int (many : Int))), some (.va (.int (k : Int))), none, none, none, none, none, none, none] rfl ?_
  walk_at "s"
  have pn : 0 < nm.length := List.length_pos_iff.mpr hnm
  have ps : 0 < sl.length := List.length_pos_iff.mpr hsl
  obtain ⟨I, hI⟩ : ∃ I : Nat → En → BW Ω → Prop, I = fun μ e w' => ∃ (m' : Nat) (dn : List PD) (n' : Int) (s6 s7 s8 s9 s10 s11 : Option Sl), e = [some (.va (.ref b)), some (.va (.lst (nm.map .str))), some (.va (.lst (sl.map .str))), some (.va (.int (m' : Int))), some (.va (.int (k : Int))), some (.ow dn), s6, s7, s8, s9, s10, s11] ∧
    w' = ⟨some b, n', x0⟩ ∧ μ = m' ∧ m' ≤ many ∧ n0 ≤ n' ∧ n' ≤ n0 + 200 * ((many - m' : Nat) : Int) ∧ WfP nm k (many - m') dn ∧ dn.length ≤ many - m' := ⟨_, rfl⟩
  refine while_D I many ?_ ?_
  · rw [hI]
    exact ⟨many, [], n0, none, none, none, none, none, none, rfl, rfl, rfl, Nat.le_refl _, Int.le_refl _, by omega, WfP.nil, Nat.zero_le _⟩
  intro μ e w' hw2
  rw [hI] at hw2
  obtain ⟨m', dn, n', s6, s7, s8, s9, s10, s11, rfl, rfl, rfl, hm', hn1, hn3, hp2, hdl⟩ := hw2
  walk_at "s"
  cases μ with
  | zero =>
    rw [decide_eq_false (by omega)]
    walk_at "s"
    exact q dn n' (by omega) (by omega) (hp2.mono (Nat.le_refl _) (by omega))
  | succ j =>
    rw [decide_eq_true (by omega)]
    walk_at "s"
    refine fun way l0 u0 => ?_
    walk_at "s"
    rw [show ((j + 1 : Nat) : Int) - 1 = (j : Int) by omega]
    have fin : ∀ (j2 : Nat) (st : PD) (n2 : Int) (s6 s7 s8 s9 s10 s11 : Option Sl), n0 ≤ n2 → n2 ≤ n0 + 200 * ((many - j2 : Nat) : Int) → j2 ≤ j → WfP nm k (j + 1 - j2) [st] →
        ∃ m', m' < j + 1 ∧ I m' [some (.va (.ref b)), some (.va (.lst (nm.map .str))), some (.va (.lst (sl.map .str))), some (.va (.int (j2 : Int))), some (.va (.int (k : Int))), some (.ow (dn ++ [st])), s6, s7, s8, s9, s10, s11] ⟨some b, n2, x0⟩ := by
      intro j2 st n2 s6 s7 s8 s9 s10 s11 h1 h2 h3 h4
      refine ⟨j2, by omega, ?_⟩
      rw [hI]
      exact ⟨j2, dn ++ [st], n2, s6, s7, s8, s9, s10, s11, rfl, rfl, rfl, by omega, h1, h2, (hp2.append h4).mono (Nat.le_refl _) (by omega), by rw [List.length_append]; simp; omega⟩
    have hlm : (nm.map PD.str).length = nm.length := List.length_map ..
    have hls : (sl.map PD.str).length = sl.length := List.length_map ..
    have hdz : dn.length < 16000000 := by omega
    have hmj : ((many - (j + 1) : Nat) : Int) + 1 ≤ ((many - j : Nat) : Int) := by omega
    walk_at "s"
    refine fun vi l1 u1 => ?_
    obtain ⟨nme, hnme, hat⟩ := atI_mem (xs := nm) l1 (by rw [← hlm]; exact u1)
    refine ix_L (atI_map (f := PD.str) hat) ?_
    walk_at "s"
    refine fun vs l2 u2 => ?_
    obtain ⟨slt, hslt, hat2⟩ := atI_mem (xs := sl) l2 (by rw [← hls]; exact u2)
    have hsn1 := hsn slt hslt
    refine ix_L (atI_map (f := PD.str) hat2) ?_
    walk_at "s"
    refine ifa_join (decide (way < 5)) (decide (0 < (k : Int))) (fun Q h => ?_) (fun c1 c2 => ?_) (fun c => ?_)
    · walk_at "s"; exact h
    · simp only [decide_eq_true_eq] at c1 c2
      walk_at "s"
      refine fun inn l3 u3 => ?_
      obtain ⟨i, rfl⟩ : ∃ i : Nat, inn = (i : Int) := ⟨inn.toNat, by omega⟩
      obtain ⟨k', rfl⟩ : ∃ k', k = k' + 1 := ⟨k - 1, by omega⟩
      walk_at "s"
      rw [show ((k' + 1 : Nat) : Int) - 1 = (k' : Int) by omega]
      refine ⟨b, nm, sl, i, rfl, rfl, by dsimp only; omega, by omega, hnm, hnml, hsl, hsll, hsn, fun body n3 h1 h2 hw => ?_⟩
      dsimp only at h1 h2
      walk_at "s"
      rw [show (j : Int) - (i : Int) = ((j - i : Nat) : Int) by omega]
      walk_at "s"
      have pick : ∃ ix st, atI [PD.int 0, .int 0, .int 1, .int 2, .int 2] way = some (.int ix) ∧ atI [PD.tup [.str "begin", .tup body], .tup [.str "late", .tup body], .tup [.str "in", .str slt, .tup body]] ix = some (addW st body) ∧ WfSt nm st ∧ inBlocks st = true := by
        have : way = 0 ∨ way = 1 ∨ way = 2 ∨ way = 3 ∨ way = 4 := by omega
        rcases this with rfl | rfl | rfl | rfl | rfl
        · exact ⟨0, .tup [.str "begin"], rfl, rfl, .begin_, by decide +kernel⟩
        · exact ⟨0, .tup [.str "begin"], rfl, rfl, .begin_, by decide +kernel⟩
        · exact ⟨1, .tup [.str "late"], rfl, rfl, .late, by decide +kernel⟩
        · exact ⟨2, .tup [.str "in", .str slt], rfl, rfl, .inn hsn1, inb_in⟩
        · exact ⟨2, .tup [.str "in", .str slt], rfl, rfl, .inn hsn1, inb_in⟩
      obtain ⟨ix, st, ha1, ha2, wst, ib⟩ := pick
      refine ix_L ha1 ?_
      refine ix_L ha2 ?_
      walk_at "s"
      refine fin (j - i) (addW st body) n3 _ _ _ _ _ _ (by omega) ?_ (by omega) ((WfP.blk wst ib hw).mono (Nat.le_refl _) (by omega))
      have : ((many - (j - i) : Nat) : Int) = ((many - j : Nat) : Int) + (i : Int) := by omega
      omega
    walk_at "s"
    refine iteB (fun c3 => ?_) (fun c3 => ?_)
    · walk_at "s"
      refine fun dv n3 h1 h2 hdv => ?_
      walk_at "s"
      exact fin j (.tup [.str "set", .str nme, dv, .str slt]) n3 _ _ _ _ _ _ (by omega) (by omega) (Nat.le_refl _) ((WfP.one (.set hnme hsn1 hdv) inb_set).mono (Nat.le_refl _) (by omega))
    · walk_at "s"
      have pick : ∃ st, atI [PD.tup [.str "look", .str nme], .tup [.str "look", .str nme], .tup [.str "back", .str slt], .tup [.str "copy", .str slt], .tup [.str "copy", .str slt], .tup [.str "pass"]] ((way - 8) % 6) = some st ∧ WfSt nm st ∧ inBlocks st = false := by
        have : (way - 8) % 6 = 0 ∨ (way - 8) % 6 = 1 ∨ (way - 8) % 6 = 2 ∨ (way - 8) % 6 = 3 ∨ (way - 8) % 6 = 4 ∨ (way - 8) % 6 = 5 := by omega
        rcases this with h | h | h | h | h | h <;> rw [h]
        · exact ⟨_, rfl, .look hnme, inb_look⟩
        · exact ⟨_, rfl, .look hnme, inb_look⟩
        · exact ⟨_, rfl, .back hsn1, inb_back⟩
        · exact ⟨_, rfl, .copy hsn1, inb_copy⟩
        · exact ⟨_, rfl, .copy hsn1, inb_copy⟩
        · exact ⟨_, rfl, .pass_, by decide +kernel⟩
      obtain ⟨st, ha, wst, ib⟩ := pick
      refine kkIx_of ha ?_
      walk_at "s"
      exact fin j st _ _ _ _ _ _ _ (by omega) (by omega) (Nat.le_refl _) ((WfP.one wst ib).mono (Nat.le_refl _) (by omega))
theorem okd_program (T : TX K mg) : ∀ k : Nat, FnOk P w K mg base CX0 (k + 1 + 3) T.d_law_program.a T.d_law_program.d ["_law_box_here", "_law_names_here", "_law_slots", "_law_many", "_law_blocks"] (liftSp (boxM M0) K 5 (aProg k))
  | 0 => program_turn T 0 (fn_never (lift_never fun _ _ _ _ z => z))
  | k + 1 => program_turn T (k + 1) (okd_program T k)
end
end RS
set_option Elab.async false
set_option linter.all false
set_option maxRecDepth 100000
set_option maxHeartbeats 4000000
set_option synthInstance.maxHeartbeats 400000
set_option synthInstance.maxSize 20000

namespace RS
open PySem L2
/-! steps by their heads -/
local macro_rules | `(tactic| walk_at "fr") => `(tactic| first
  | assumption
  | exact SqL.of (by assumption)
  | exact SqT.of (by assumption)
  | exact Or.inl (by assumption)
  | exact Or.inr (by assumption)
  | (refine Gr.get (by assumption) ?_ (by walk_at "nin"); walk_at "fr")
  | (refine Gr.tup (by assumption) _ _ ?_; walk_at "fr")
  | (refine SqL.of ?_; walk_at "fr1")
  | (refine SqT.of ?_; walk_at "fr1")
  | (refine Gr.sqL (by assumption) ?_ (by walk_at "nin"); walk_at "fr")
  | (refine Gr.sqT (by assumption) ?_ (by walk_at "nin"); walk_at "fr")
  | (refine Gr.rep0 (by assumption) ?_; walk_at "fr")
  | (refine Gr.reps0 (by assumption) ?_; walk_at "fr"))
local macro_rules | `(tactic| walk_at "fr1") => `(tactic| first
  | assumption
  | (refine Gr.tup (by assumption) _ _ ?_; walk_at "fr1")
  | (refine Gr.get (by assumption) ?_ (by walk_at "nin"); walk_at "fr1"))
local macro_rules | `(tactic| walk_at "nin") => `(tactic| first
  | exact nin_nil
  | assumption
  | (refine nin_one ?_; walk_at "ne"))
local macro_rules | `(tactic| walk_at "ne") => `(tactic| first
  | assumption
  | exact Ne.symm (by assumption)
  | exact ne_new (by assumption) (by assumption)
  | exact Ne.symm (ne_new (by assumption) (by assumption)))
local macro_rules | `(tactic| walk_at "sz") => `(tactic| first
  | assumption
  | exact rfl
  | omega
  | (simp only [List.length_cons, List.length_nil, List.length_append, List.length_map, CDiv, CDivN, CMul]; omega)
  | decide
  | (constructor <;> first | exact rfl | omega | assumption | (simp only [List.length_cons, List.length_nil, List.length_append, List.length_map]; omega) | decide))
local macro_rules | `(tactic| walk_at "i1") => `(tactic| first
  | ((with_reducible refine' isi_L_list ?vh ?_); (case vh => walk_at "fr"))
  | ((with_reducible refine' isi_T_list ?vh ?_); (case vh => walk_at "fr"))
  | ((with_reducible refine' isi_L_tuple ?vh ?_); (case vh => walk_at "fr"))
  | ((with_reducible refine' isi_T_tuple ?vh ?_); (case vh => walk_at "fr"))
  | ((with_reducible refine' isi_L_str ?vh ?_); (case vh => walk_at "fr"))
  | ((with_reducible refine' isi_T_str ?vh ?_); (case vh => walk_at "fr"))
  | ((with_reducible refine' isi_L_int ?vh ?_); (case vh => walk_at "fr"))
  | ((with_reducible refine' isi_T_int ?vh ?_); (case vh => walk_at "fr"))
  | ((with_reducible refine' isi_L_bool ?vh ?_); (case vh => walk_at "fr"))
  | ((with_reducible refine' isi_T_bool ?vh ?_); (case vh => walk_at "fr")))
local macro_rules | `(tactic| walk_at "s") => `(tactic| repeat (first
  | with_reducible refine Stp.h ?_
  | ((with_reducible refine szc ?_ ?_); walk_at "sz")
  | ((with_reducible refine' w_kTyL ?vh ?_); (case vh => walk_at "fr"))
  | ((with_reducible refine' w_lenL ?vh ?_); (case vh => walk_at "fr"))
  | ((with_reducible refine' w_lenT ?vh ?_); (case vh => walk_at "fr"))))
local macro_rules | `(tactic| walk_at "gr") => `(tactic| first
  | exact Gr.refl _ _
  | assumption
  | exact Gr.wide (by assumption)
  | (refine Gr.trans ?_ (by assumption); walk_at "gr")
  | (refine Gr.trans ?_ (Gr.wide (by assumption)); walk_at "gr"))
local macro_rules | `(tactic| walk_at "s2") => `(tactic| (with_reducible refine Stp.h ?_; with_reducible refine Stp.h ?_))

section
variable {P : Program} {w : World} {K : PySem.W.Frag} {mg : Str → Option Value} {base : Heap}
variable {W : Type} {M : WM W}
theorem esc_eq (c : Nat) : Txt.mul "\\" (if (decide (c = 39) || decide (c = 92)) = true then 1 else 0) ++ (⟨#[c]⟩ : Str) = ⟨(escL c).toArray⟩ := by
  apply TL.ext_tl
  rw [TL.tl_append, tl_mul, show TL.tl ("\\" : Str) = [92] by decide +kernel]
  show _ ++ [c] = escL c
  unfold escL
  by_cases h : c = 39 ∨ c = 92
  · rw [if_pos h, if_pos (by simpa using h)]; rfl
  · rw [if_neg h, if_neg (by simpa using h)]; rfl
theorem esc_len : ∀ (l : List Nat), (l.flatMap escL).length ≤ 2 * l.length
  | [] => by simp
  | a :: r => by
    have := esc_len r
    rw [List.flatMap_cons, List.length_append, List.length_cons]
    have h : (escL a).length ≤ 2 := by unfold escL; split <;> simp
    omega
theorem esc_sum : ∀ (l : List Nat), (l.map (Str.length ∘ fun c => (⟨(escL c).toArray⟩ : Str))).sum ≤ 2 * l.length
  | [] => by simp
  | a :: r => by
    have := esc_sum r
    rw [List.map_cons, List.sum_cons, List.length_cons]
    have h : (escL a).length ≤ 2 := by unfold escL; split <;> simp
    have h2 : (Str.length ∘ fun c => (⟨(escL c).toArray⟩ : Str)) a = (escL a).length := by simp [Str.length]
    omega

theorem quotes_dec (c : Nat) : decide ((⟨#[c]⟩ : Str) ∈ [Str.ofString "'", Str.ofString "\\"]) = (decide (c = 39) || decide (c = 92)) := by
  have h : ∀ (s : Str) (k : Nat), TL.tl s = [k] → ((⟨#[c]⟩ : Str) = s ↔ c = k) := fun s k hs => ⟨fun e => by subst e; have : [c] = [k] := hs; simpa using this, fun e => by subst e; exact TL.ext_tl (by rw [hs])⟩
  rw [Bool.eq_iff_iff, Bool.or_eq_true, decide_eq_true_eq, decide_eq_true_eq, decide_eq_true_eq]
  simp only [List.mem_cons, List.not_mem_nil, or_false]
  exact or_congr (h _ 39 (by decide +kernel)) (h _ 92 (by decide +kernel))
def aWritten : ASp W := fun ds w Q _ => ∃ d, ds = [d] ∧ wfVal d ∧ Q (.str (writtenOf d)) w
theorem sc_law_written : FnScope ["_law_value_here", "_law_sign"] ["_law_value_here"] (defScope s_law_written) := ⟨rfl, rfl, rfl, by decide +kernel, rfl, by decide +kernel, by decide +kernel⟩
theorem okd_law_written (T : TX K mg) : FnOk P w K mg base CX0 1 T.d_law_written.a T.d_law_written.d ["_law_value_here"] (liftSp M K 1 aWritten) := by
  refine T.d_law_written.F.ok sc_law_written (fun vs H Q E h => lift_len h) (fun cdv A outer s H vs Q E hr h => ?_)
  obtain ⟨ds, w, Zf, Zw, AQ, AX, hn, ha, L⟩ := h
  refine ⟨_, (pss_cons (ps_if (pt_val (pe_callB (call_isiD (K := K) rfl) (by rfl) T.z_isinstance bt_isinstance (pa_cons (pv 0) (pa_cons (pe_bltn (v := .ty "int") (by rfl) T.z_int bt_int rfl) pa_nil))))
    (pss_one (ps_ret (pe_callTy call_strA (by rfl) T.z_str bt_str (pa_cons (pv 0) pa_nil))))
    pss_nil)
  (pss_one (ps_ret (pe_op (op_addK (K := K) rfl) (pe_op (op_addK (K := K) rfl) pe_str (pe_m1 PySem.F.slot_str_join PySem.F.type_str_join (mt_joinK (K := K) rfl) pe_str (pe_lc (own := [("_law_sign", 1)]) rfl sc_law_written.nd (pi_anyK (K := K) rfl (pv 0)) (blkOk_by (N := ["_law_value_here", "_law_sign"]) (sc := defScope s_law_written) (own := [("_law_sign", 1)]) (by decide +kernel)) (fun _ _ _ _ _ => (pg_name (i := 1) sc_law_written.nd rfl (Or.inl rfl))) (fun _ _ _ _ _ => pts_nil) (fun _ _ _ _ _ => (pe_op (op_addK (K := K) rfl) (pe_op op_mulA pe_str (pe_callTy call_intA (by rfl) T.z_int bt_int (pa_cons (pe_cmpR (op_inK (K := K) rfl) (pv 1) (pe_tup (pa_cons pe_str (pa_cons pe_str pa_nil))) (by rfl)) pa_nil))) (pv 1)))))) pe_str)))), ?_⟩
  refine L.go ?_
  clear L hr
  obtain ⟨d, rfl, hd, q⟩ := ha
  cases d with
  | int i =>
    refine at_startE [some (.va (.int i)), none] rfl ?_
    have hlog : i.natAbs.log2 < 1920 := by
      have h1 : i.natAbs < 2 ^ 100 := by
        have : i.natAbs < 10 ^ 30 := by obtain ⟨h1, h2⟩ := hd; omega
        exact Nat.lt_of_lt_of_le this (by decide)
      by_cases h0 : i.natAbs = 0
      · rw [h0]; decide
      · exact Nat.lt_of_lt_of_le ((Nat.log2_lt h0).mpr h1) (by decide)
    walk_at "s"
    exact q
  | str z =>
    refine at_startE [some (.va (.str z)), none] rfl ?_
    have hz : z.length ≤ 40 := by rw [TL.len_tl]; exact hd.1
    have hl : TL.tl (PySem.Txt.join "" (z.cps.toList.map fun c => (⟨(escL c).toArray⟩ : Str))) = (TL.tl z).flatMap escL := by
      rw [join_tl, List.map_map]; rfl
    have hj : PySem.Txt.join (Str.ofString "") (z.cps.toList.map fun c => (⟨(escL c).toArray⟩ : Str)) = ⟨((TL.tl z).flatMap escL).toArray⟩ := TL.ext_tl hl
    have hjl : (⟨((TL.tl z).flatMap escL).toArray⟩ : Str).length ≤ 1000 := by
      rw [TL.len_tl]
      show ((TL.tl z).flatMap escL).length ≤ 1000
      have := esc_len (TL.tl z)
      rw [TL.len_tl] at hz; omega
    have l1 : (Str.ofString "'").length = 1 := by decide +kernel
    walk_at "s"
    refine lc_signsD [some (.va (.str z)), none] rfl (fun c => .str ⟨(escL c).toArray⟩) (by omega) (noOw_dec rfl) (by decide) (fun c hc X hX => ?_) ?_
    · walk_at "s"
      rw [quotes_dec]
      refine szc ?_ ?_
      · rw [TL.len_tl, tl_mul, show (⟨#[c]⟩ : Str).length = 1 from rfl]
        split <;> decide +kernel
      rw [show Txt.mul (Str.ofString "\\") (if (decide (c = 39) || decide (c = 92)) = true then 1 else 0) ++ (⟨#[c]⟩ : Str) = ⟨(escL c).toArray⟩ from esc_eq c]
      exact hX _ rfl
    · walk_at "s"
      refine szc ?_ ?_
      · have := esc_sum z.cps.toList
        rw [List.map_map, List.length_map, show (Str.ofString "").length = 0 by decide +kernel]
        rw [len_cps] at hz
        refine Nat.le_trans (Nat.add_le_add_right this _) (by omega)
      rw [hj]
      walk_at "s"
      refine szc (by rw [len_app, l1]; omega) ?_
      walk_at "s"
      exact q
  | _ => exact hd.elim
instance {d : PD} {w : W} {Q : PD → W → Prop} {X : XA W} : Stp (aWritten [d] w Q X) (SzC (wfVal d) ∧ Q (.str (writtenOf d)) w) := ⟨fun h => ⟨d, rfl, h.1, h.2⟩⟩
def isStrD : PD → Bool
  | .str _ => true
  | _ => false
theorem strs_filt : ∀ (ds : List PD), ds.filter isStrD = (strsOf ds).map .str
  | [] => rfl
  | d :: ds => by
    have ih := strs_filt ds
    cases d <;> first | (rw [List.filter_cons_of_pos rfl, ih]; rfl) | (rw [List.filter_cons_of_neg (by simp [isStrD]), ih]; rfl)
/-- the last datum of a plain step is a text -/
theorem last_str {nm : List Str} {st : PD} (h : WfSt nm st) : ∃ r s, r.length ≤ 3 ∧ st = .tup (r ++ [.str s]) := by
  cases h with
  | set => exact ⟨[_, _, _], _, by simp, rfl⟩
  | look => exact ⟨[_], _, by simp, rfl⟩
  | back => exact ⟨[_], _, by simp, rfl⟩
  | copy => exact ⟨[_], _, by simp, rfl⟩
  | inn => exact ⟨[_], _, by simp, rfl⟩
  | _ => exact ⟨[], _, by simp, rfl⟩
/-- a step is a set or its words are its texts -/
theorem words_of {nm : List Str} {st : PD} (h : WfSt nm st) : (∃ n s v, st = .tup [.str "set", .str n, v, .str s] ∧ wfVal v) ∨ (∃ w r, st = .tup (.str w :: r) ∧ w ≠ ("set" : Str) ∧ wordsOf st = strsOf (.str w :: r)) := by
  cases h with
  | set _ _ hv => exact .inl ⟨_, _, _, rfl, hv⟩
  | look => exact .inr ⟨_, _, rfl, by decide +kernel, rfl⟩
  | back => exact .inr ⟨_, _, rfl, by decide +kernel, rfl⟩
  | copy => exact .inr ⟨_, _, rfl, by decide +kernel, rfl⟩
  | inn => exact .inr ⟨_, _, rfl, by decide +kernel, rfl⟩
  | _ => exact .inr ⟨_, _, rfl, by decide +kernel, rfl⟩
theorem strsOf_append (a b : List PD) : strsOf (a ++ b) = strsOf a ++ strsOf b := by
  induction a with
  | nil => rfl
  | cons d r ih => cases d <;> simp [strsOf, ih]
theorem atI_endD {xs : List PD} {x : PD} : atI (xs ++ [x]) (-1) = some x := by
  unfold atI ixN
  rw [if_neg (by decide), if_pos (by rw [List.length_append, List.length_singleton]; omega)]
  have e : ((-1 : Int) + ((xs ++ [x]).length : Int)).toNat = xs.length := by rw [List.length_append, List.length_singleton]; omega
  show (xs ++ [x])[((-1 : Int) + ((xs ++ [x]).length : Int)).toNat]? = some x
  rw [e, List.getElem?_concat_length]
def aRows (m : Nat) : ASp W := fun ds w Q _ => ∃ (nm : List Str) (p : List PD) (d : Nat) (l : List (Int × PD)), ds = [.tup p, .int ((2 * d : Nat) : Int)] ∧ (∀ n ∈ nm, isName n = true) ∧ Flat nm (d : Int) p l ∧ (∀ q ∈ l, q.1 < (d : Int) + (m : Int)) ∧ d + m ≤ 20 ∧ l.length ≤ 200 ∧ Q (.lst ((l.map rowText).map .str)) w
def aRowsV : Nat → ASp W
  | 0 => fun _ _ _ _ => False
  | j + 1 => aRows j
theorem kind_lit {d : PD} {P : PD → Prop} (h : kindD d ≠ none) (q : P (.bl (isStrD d))) : abIsi [d, .ty "str"] P := by
  cases d <;> first
    | exact absurd rfl h
    | exact ⟨"NoneType", rfl, .inr (.inl rfl), (show isa "NoneType" "str" = false by decide +kernel) ▸ q⟩
    | exact ⟨"bool", rfl, .inr (.inl rfl), (show isa "bool" "str" = false by decide +kernel) ▸ q⟩
    | exact ⟨"int", rfl, .inr (.inl rfl), (show isa "int" "str" = false by decide +kernel) ▸ q⟩
    | exact ⟨"str", rfl, .inr (.inl rfl), (show isa "str" "str" = true by decide +kernel) ▸ q⟩
    | exact ⟨"list", rfl, .inr (.inl rfl), (show isa "list" "str" = false by decide +kernel) ▸ q⟩
    | exact ⟨"tuple", rfl, .inr (.inl rfl), (show isa "tuple" "str" = false by decide +kernel) ▸ q⟩
theorem isiStr_k {d : PD} {R : Bool → Prop} (h : kindD d ≠ none) (q : R (isStrD d)) : abIsi [d, .ty "str"] (kkB R) := kind_lit h ⟨_, rfl, q⟩
theorem kind_val {v : PD} (h : wfVal v) : kindD v ≠ none := by
  intro e
  cases v <;> first | exact h.elim | cases e
theorem kind_step {nm : List Str} {L0 : List PD} (h : WfSt nm (.tup L0)) : ∀ x, x ∈ L0 → kindD x ≠ none := by
  cases h <;> intro x hx <;> simp only [List.mem_cons, List.not_mem_nil, or_false] at hx <;> rcases hx with rfl | hx
  all_goals first
    | exact (fun e => by cases e)
    | (subst hx; exact (fun e => by cases e))
    | (rcases hx with rfl | rfl | rfl <;> first | exact (fun e => by cases e) | exact kind_val (by assumption))
theorem litL_L {nm : List Str} {L L0 : List PD} {d : Int} {lb : List (Int × PD)} {nb : Option (List PD)} (h : WfSt nm (.tup L0)) (hnb : match nb with | none => L = L0 ∧ lb = [] | some body => L = L0 ++ [.tup body] ∧ Flat nm (d + 1) body lb) : ∀ x, x ∈ L → kindD x ≠ none := by
  intro x hx
  cases nb with
  | none => rw [hnb.1] at hx; exact kind_step h x hx
  | some body =>
    rw [hnb.1] at hx
    rcases List.mem_append.mp hx with hx | hx
    · exact kind_step h x hx
    · rw [List.mem_singleton.mp hx]; exact (fun e => by cases e)
theorem sc_law_rows : FnScope ["_law_program_here", "_law_blanks", "_law_rows_here", "_law_step_here", "_law_words", "_law_word"] ["_law_program_here", "_law_blanks"] (defScope s_law_rows) := ⟨rfl, rfl, rfl, by decide +kernel, rfl, by decide +kernel, by decide +kernel⟩
theorem rows_turn (T : TX K mg) (m : Nat) (IH : FnOk P w K mg base CX0 (m + 1) T.d_law_rows.a T.d_law_rows.d ["_law_program_here", "_law_blanks"] (liftSp M K 2 (aRowsV m))) :
    FnOk P w K mg base CX0 (m + 1 + 1) T.d_law_rows.a T.d_law_rows.d ["_law_program_here", "_law_blanks"] (liftSp M K 2 (aRows m)) := by
  refine T.d_law_rows.F.ok sc_law_rows (fun vs H Q E h => lift_len h) (fun cdv A outer s H vs Q E hr h => ?_)
  obtain ⟨ds, w, Zf, Zw, AQ, AX, hn, ⟨nm, p, d, l, rfl, hnm, fl, hdp, hd, hll, q⟩, L⟩ := h
  refine ⟨_, (pss_cons (ps_set (i := 2) sc_law_rows.nd rfl (Or.inl rfl) (pe_lst pa_nil))
  (pss_cons (ps_for PassesOwn.never rfl (pi_anyK (K := K) rfl (pv 0)) (pg_name (i := 3) sc_law_rows.nd rfl (Or.inl rfl))
    (pss_cons (ps_setLc (i := 4) (own := [("_law_word", 5)]) rfl sc_law_rows.nd rfl rfl (sw_true rfl rfl rfl (by decide +kernel)) (pi_anyK (K := K) rfl (pv 3)) (blkOk_by (N := ["_law_program_here", "_law_blanks", "_law_rows_here", "_law_step_here", "_law_words", "_law_word"]) (sc := defScope s_law_rows) (own := [("_law_word", 5)]) (by decide +kernel)) (fun _ _ _ _ _ => (pg_name (i := 5) sc_law_rows.nd rfl (Or.inl rfl))) (fun _ _ _ _ _ => pts_one (pt_val (pe_callB (call_isiD (K := K) rfl) (by rfl) T.z_isinstance bt_isinstance (pa_cons (pv 5) (pa_cons (pe_bltn (v := .ty "str") (by rfl) T.z_str bt_str rfl) pa_nil))))) (fun _ _ _ _ _ => (pv 5)))
  (Evl.pss_cut (ps_if (pt_cmpR (op_eqK (K := K) rfl (hu64 hr)) (pe_ix (ix_anyK (K := K) rfl) (pv 3) pe_int (fun _ _ => rfl)) pe_str (nomark _))
    (pss_one (ps_set (i := 4) sc_law_rows.nd rfl (Or.inl rfl) (pe_lst (pa_cons pe_str (pa_cons (pe_ix (ix_anyK (K := K) rfl) (pv 3) pe_int (fun _ _ => rfl)) (pa_cons (pe_call (okd_law_written (M := M) T) (hr.mono (by omega)) (by rfl) T.d_law_written.g T.d_law_written.F.kp T.d_law_written.b .nil pass0 (pa_cons (pe_ix (ix_anyK (K := K) rfl) (pv 3) pe_int (fun _ _ => rfl)) pa_nil)) (pa_cons (pe_ix (ix_anyK (K := K) rfl) (pv 3) pe_int (fun _ _ => rfl)) pa_nil)))))))
    pss_nil)
  (pss_cons (ps_expr (pe_bmK (K := K) rfl PySem.F.plainAttrs_list PySem.F.slot_list_append PySem.F.type_list_append mt_append (pv 2) (pa_cons (pe_op (op_addK (K := K) rfl) (pe_op op_mulA pe_str (pv 1)) (pe_m1 PySem.F.slot_str_join PySem.F.type_str_join (mt_joinK (K := K) rfl) pe_str (pv 4))) pa_nil)))
  (pss_one (ps_if (pt_val (pe_callB (call_isiD (K := K) rfl) (by rfl) T.z_isinstance bt_isinstance (pa_cons (pe_ix (ix_anyK (K := K) rfl) (pv 3) (pe_un un_neg pe_int) (fun _ _ => rfl)) (pa_cons (pe_bltn (v := .ty "tuple") (by rfl) T.z_tuple bt_tuple rfl) pa_nil))))
    (pss_one (ps_expr (pe_bmK (K := K) rfl PySem.F.plainAttrs_list PySem.F.slot_list_extend PySem.F.type_list_extend mt_extend (pv 2) (pa_cons (pe_call IH hr (by rfl) T.d_law_rows.g T.d_law_rows.F.kp T.d_law_rows.b .nil pass0 (pa_cons (pe_ix (ix_anyK (K := K) rfl) (pv 3) (pe_un un_neg pe_int) (fun _ _ => rfl)) (pa_cons (pe_op (op_addK (K := K) rfl) (pv 1) pe_int) pa_nil))) pa_nil))))
    pss_nil))))))
  (pss_one (ps_ret (pv 2))))), ?_⟩
  refine L.go ?_
  clear L hr
  refine at_startE [some (.va (.tup p)), some (.va (.int ((2 * d : Nat) : Int))), none, none, none, none] rfl ?_
  walk_at "s"
  refine for_D (fun i e w' => w' = w ∧ ∃ (dn rest : List (Int × PD)) (s3 s4 s5 : Option PD), e = [some (.va (.tup p)), some (.va (.int ((2 * d : Nat) : Int))), some (.ow ((dn.map rowText).map .str)), s3.map .va, s4.map .va, s5.map .va] ∧ l = dn ++ rest ∧ Flat nm (d : Int) (p.drop i) rest) ?_ ?_ ?_
  · exact ⟨rfl, [], l, none, none, none, rfl, rfl, fl⟩
  · rintro i e w' st' ⟨rfl, dn, rest, s3, s4, s5, rfl, hl, f2⟩ hi hst'
    have hlt : i < p.length := hi
    have hpd : p.drop i = st' :: p.drop (i + 1) := by
      rw [List.drop_eq_getElem_cons hlt]
      exact congrArg (· :: _) (List.getElem?_eq_some_iff.mp hst').2
    rw [hpd] at f2
    have what : ∃ (st : PD) (L L0 : List PD) (lb l' : List (Int × PD)) (nb : Option (List PD)), WfSt nm st ∧ st' = .tup L ∧ st = .tup L0 ∧ rest = ((d : Int), st) :: (lb ++ l') ∧ Flat nm (d : Int) (p.drop (i + 1)) l' ∧
        L.length ≤ 5 ∧ (∃ r s, L0 = r ++ [.str s]) ∧ (match nb with | none => L = L0 ∧ lb = [] | some body => L = L0 ++ [.tup body] ∧ Flat nm ((d : Int) + 1) body lb) := by
      generalize p.drop (i + 1) = pr at f2 ⊢
      cases f2 with
      | plain wst ib fl' =>
        obtain ⟨r, s, hr3, rfl⟩ := last_str wst
        exact ⟨_, _, _, [], _, none, wst, rfl, rfl, rfl, fl', by simp; omega, ⟨r, s, rfl⟩, rfl, rfl⟩
      | block wst ib fb fl' =>
        obtain ⟨r, s, hr3, rfl⟩ := last_str wst
        exact ⟨_, _, _, _, _, some _, wst, rfl, rfl, rfl, fl', by simp; omega, ⟨r, s, rfl⟩, rfl, fb⟩
    obtain ⟨st, L, L0, lb, l', nb, wst, rfl, rfl, rfl, fl', hL5, ⟨r0, s0, hr0⟩, hnb⟩ := what
    walk_at "s"
    refine lc_filt [some (.va (.tup p)), some (.va (.int ((2 * d : Nat) : Int))), some (.ow ((dn.map rowText).map .str)), some (.va (.tup L)), s4.map .va, none] rfl (fun d => d) isStrD (by omega) (noOw_dec (by cases s5 <;> rfl)) (by decide) (fun x hx X Y hX hY => ?_) ?_
    · walk_at "s"
      refine isiStr_k (litL_L wst hnb x hx) ?_
      refine iteB (fun h => ?_) (fun h => ?_)
      · walk_at "s"
        exact hX h _ rfl
      · exact hY h _ rfl
    rw [List.map_id', strs_filt]
    walk_at "s"
    obtain ⟨tl, hLt, htl⟩ : ∃ tl, L = L0 ++ tl ∧ strsOf tl = [] := by
      cases nb with
      | none => exact ⟨[], by rw [hnb.1, List.append_nil], rfl⟩
      | some body => exact ⟨[.tup body], hnb.1, rfl⟩
    refine ⟨fun e1 w1 => w1 = w' ∧ ∃ sl, (sl = some (.va (.lst ((wordsOf (.tup L0)).map .str))) ∨ sl = some (.ow ((wordsOf (.tup L0)).map .str))) ∧ e1 = [some (.va (.tup p)), some (.va (.int ((2 * d : Nat) : Int))), some (.ow ((dn.map rowText).map .str)), some (.va (.tup L)), sl, s5.map .va], ?_, ?_⟩
    · walk_at "s"
      rcases words_of wst with ⟨n1, s1, v1, hst, hv1⟩ | ⟨w1, r1, hst, hw1, hws⟩
      · injection hst with hst
        subst hst
        subst hLt
        walk_at "s"
        refine ix_T (atI_nat' (i := 0) rfl) ?_
        walk_at "s"
        rw [decide_eq_true rfl]
        walk_at "s"
        refine ix_T (atI_nat' (i := 1) rfl) ?_
        walk_at "s"
        refine ix_T (atI_nat' (i := 2) rfl) ?_
        walk_at "s"
        refine ix_T (atI_nat' (i := 3) rfl) ?_
        walk_at "s"
        exact ⟨rfl, _, .inr rfl, rfl⟩
      · injection hst with hst
        subst hst
        subst hLt
        walk_at "s"
        refine ix_T (atI_nat' (i := 0) rfl) ?_
        walk_at "s"
        rw [decide_eq_false hw1]
        walk_at "s"
        exact ⟨rfl, _, .inl rfl, by rw [hws, strsOf_append, htl, List.append_nil]⟩
    · obtain ⟨wl, wsm⟩ := words_small wst hnm
      have jl := join_len " " (wordsOf (.tup L0))
      rw [show (" " : Str).length = 1 by decide +kernel] at jl
      have ml : (Txt.mul " " ((2 * d : Nat) : Int)).length = 2 * d := by rw [TL.len_tl, tl_blanks, List.length_replicate]
      have rt : rowText ((d : Int), .tup L0) = Txt.mul " " ((2 * d : Nat) : Int) ++ Txt.join " " (wordsOf (.tup L0)) := by
        unfold rowText; rw [show 2 * (d : Int) = ((2 * d : Nat) : Int) by omega]
      have hl1 : (Str.ofString " ").length = 1 := by decide +kernel
      have hlen := congrArg List.length hl
      rw [List.length_append, List.length_cons, List.length_append] at hlen
      rintro e1 w1 ⟨rfl, sl, hsl, rfl⟩
      have two : ∀ {A : AN W} {as : AS W}, as A [some (.va (.tup p)), some (.va (.int ((2 * d : Nat) : Int))), some (.ow ((dn.map rowText).map .str)), some (.va (.tup L)), some (.va (.lst ((wordsOf (.tup L0)).map .str))), s5.map .va] w1 → True := fun _ => trivial
      rcases hsl with rfl | rfl <;> (
        walk_at "s"
        refine szc (by rw [hl1]; omega) ?_
        walk_at "s"
        have em : List.map PD.str (List.map rowText dn) ++ [PD.str (Txt.mul (Str.ofString " ") ↑(2 * d) ++ Txt.join (Str.ofString " ") (wordsOf (PD.tup L0)))] = ((dn ++ [((d : Int), PD.tup L0)]).map rowText).map .str := by
          rw [List.map_append, List.map_append]; simp only [List.map_cons, List.map_nil, rt]
        rw [em]
        cases nb with
        | none =>
          obtain ⟨hLL, rfl⟩ := hnb
          subst hLL
          subst hr0
          refine ix_T atI_endD ?_
          walk_at "s"
          exact ⟨rfl, dn ++ [((d : Int), PD.tup (r0 ++ [.str s0]))], l', some (.tup (r0 ++ [.str s0])), some (.lst ((wordsOf (.tup (r0 ++ [.str s0]))).map .str)), s5, rfl, by rw [hl, List.nil_append, List.append_assoc]; rfl, fl'⟩
        | some body =>
          obtain ⟨hLL, fb⟩ := hnb
          subst hLL
          refine ix_T atI_endD ?_
          walk_at "s"
          refine ix_T atI_endD ?_
          walk_at "s"
          have hmem : ((d : Int), PD.tup L0) ∈ l := by rw [hl]; exact List.mem_append_right _ List.mem_cons_self
          have hm0 := hdp _ hmem
          obtain ⟨m', rfl⟩ : ∃ m', m = m' + 1 := ⟨m - 1, by have : (d : Int) < d + m := hm0; omega⟩
          have hlb : ∀ q ∈ lb, q ∈ l := fun q hq => by rw [hl]; exact List.mem_append_right _ (List.mem_cons_of_mem _ (List.mem_append_left _ hq))
          refine ⟨nm, body, d + 1, lb, by rw [show ((2 * (d + 1) : Nat) : Int) = ((2 * d : Nat) : Int) + 2 by omega], hnm, fb, fun q hq => by have := hdp q (hlb q hq); omega, by omega, by omega, ?_⟩
          walk_at "s"
          exact ⟨rfl, dn ++ [((d : Int), PD.tup L0)] ++ lb, l', some (.tup (L0 ++ [.tup body])), some (.lst ((wordsOf (.tup L0)).map .str)), s5, by simp only [List.map_append]; rfl, by rw [hl]; simp, fl'⟩)
  · rintro e w' ⟨rfl, dn, rest, s3, s4, s5, rfl, hl, f2⟩
    rw [List.drop_length] at f2
    cases f2
    rw [List.append_nil] at hl
    subst hl
    walk_at "s"
    exact q
theorem okd_rows (T : TX K mg) : ∀ m : Nat, FnOk P w K mg base CX0 (m + 1 + 1) T.d_law_rows.a T.d_law_rows.d ["_law_program_here", "_law_blanks"] (liftSp M K 2 (aRows m))
  | 0 => rows_turn T 0 (fn_never (lift_never fun _ _ _ _ h => h))
  | m + 1 => rows_turn T (m + 1) (okd_rows T m)
end
end RS
set_option Elab.async false
set_option linter.all false
set_option maxRecDepth 100000
set_option maxHeartbeats 4000000
set_option synthInstance.maxHeartbeats 400000
set_option synthInstance.maxSize 20000

namespace RS
open PySem L2
/-! steps by their heads -/
local macro_rules | `(tactic| walk_at "fr") => `(tactic| first
  | assumption
  | exact SqL.of (by assumption)
  | exact SqT.of (by assumption)
  | exact Or.inl (by assumption)
  | exact Or.inr (by assumption)
  | (refine Gr.get (by assumption) ?_ (by walk_at "nin"); walk_at "fr")
  | (refine Gr.tup (by assumption) _ _ ?_; walk_at "fr")
  | (refine SqL.of ?_; walk_at "fr1")
  | (refine SqT.of ?_; walk_at "fr1")
  | (refine Gr.sqL (by assumption) ?_ (by walk_at "nin"); walk_at "fr")
  | (refine Gr.sqT (by assumption) ?_ (by walk_at "nin"); walk_at "fr")
  | (refine Gr.rep0 (by assumption) ?_; walk_at "fr")
  | (refine Gr.reps0 (by assumption) ?_; walk_at "fr"))
local macro_rules | `(tactic| walk_at "fr1") => `(tactic| first
  | assumption
  | (refine Gr.tup (by assumption) _ _ ?_; walk_at "fr1")
  | (refine Gr.get (by assumption) ?_ (by walk_at "nin"); walk_at "fr1"))
local macro_rules | `(tactic| walk_at "nin") => `(tactic| first
  | exact nin_nil
  | assumption
  | (refine nin_one ?_; walk_at "ne"))
local macro_rules | `(tactic| walk_at "ne") => `(tactic| first
  | assumption
  | exact Ne.symm (by assumption)
  | exact ne_new (by assumption) (by assumption)
  | exact Ne.symm (ne_new (by assumption) (by assumption)))
local macro_rules | `(tactic| walk_at "sz") => `(tactic| first
  | assumption
  | exact rfl
  | omega
  | (simp only [List.length_cons, List.length_nil, List.length_append, List.length_map, CDiv, CDivN, CMul]; omega)
  | decide
  | (constructor <;> first | exact rfl | omega | assumption | (simp only [List.length_cons, List.length_nil, List.length_append, List.length_map]; omega) | decide))
local macro_rules | `(tactic| walk_at "i1") => `(tactic| first
  | ((with_reducible refine' isi_L_list ?vh ?_); (case vh => walk_at "fr"))
  | ((with_reducible refine' isi_T_list ?vh ?_); (case vh => walk_at "fr"))
  | ((with_reducible refine' isi_L_tuple ?vh ?_); (case vh => walk_at "fr"))
  | ((with_reducible refine' isi_T_tuple ?vh ?_); (case vh => walk_at "fr"))
  | ((with_reducible refine' isi_L_str ?vh ?_); (case vh => walk_at "fr"))
  | ((with_reducible refine' isi_T_str ?vh ?_); (case vh => walk_at "fr"))
  | ((with_reducible refine' isi_L_int ?vh ?_); (case vh => walk_at "fr"))
  | ((with_reducible refine' isi_T_int ?vh ?_); (case vh => walk_at "fr"))
  | ((with_reducible refine' isi_L_bool ?vh ?_); (case vh => walk_at "fr"))
  | ((with_reducible refine' isi_T_bool ?vh ?_); (case vh => walk_at "fr")))
local macro_rules | `(tactic| walk_at "s") => `(tactic| repeat (first
  | with_reducible refine Stp.h ?_
  | ((with_reducible refine szc ?_ ?_); walk_at "sz")
  | ((with_reducible refine' w_kTyL ?vh ?_); (case vh => walk_at "fr"))
  | ((with_reducible refine' w_lenL ?vh ?_); (case vh => walk_at "fr"))
  | ((with_reducible refine' w_lenT ?vh ?_); (case vh => walk_at "fr"))))
local macro_rules | `(tactic| walk_at "gr") => `(tactic| first
  | exact Gr.refl _ _
  | assumption
  | exact Gr.wide (by assumption)
  | (refine Gr.trans ?_ (by assumption); walk_at "gr")
  | (refine Gr.trans ?_ (Gr.wide (by assumption)); walk_at "gr"))
local macro_rules | `(tactic| walk_at "s2") => `(tactic| (with_reducible refine Stp.h ?_; with_reducible refine Stp.h ?_))

section
variable {P : Program} {w : World} {K : PySem.W.Frag} {mg : Str → Option Value} {base : Heap}
open RZ
variable {W : Type} {M : WM W}
/-- a datum of a sheet, of a depth -/
def okD : Nat → PD → Prop
  | _, .non => True
  | _, .int _ => True
  | _, .str _ => True
  | m + 1, .tup l => l.length ≤ 2000000 ∧ ∀ d ∈ l, okD m d
  | m + 1, .lst l => l.length ≤ 2000000 ∧ ∀ d ∈ l, okD m d
  | _, _ => False
def aSame (m : Nat) : ASp W := fun ds w Q _ => ∃ d, ds = [d, d] ∧ okD m d ∧ Q (.bl true) w
def aSameV : Nat → ASp W
  | 0 => fun _ _ _ _ => False
  | j + 1 => aSame j
theorem zip_self : ∀ (l : List PD), zipD l l = l.map fun d => .tup [d, d]
  | [] => rfl
  | d :: l => by show _ :: zipD l l = _; rw [zip_self l]; rfl
theorem all_true : ∀ (l : List PD), (l.map fun _ => true).all id = true
  | [] => rfl
  | _ :: l => all_true l
theorem sc_law_same : FnScope ["_law_found", "_law_due", "_law_one", "_law_other"] ["_law_found", "_law_due"] (defScope s_law_same) := ⟨rfl, rfl, rfl, by decide +kernel, rfl, by decide +kernel, by decide +kernel⟩
theorem same_turn (T : TX K mg) (m : Nat) (IH : FnOk P w K mg base CX0 m T.d_law_same.a T.d_law_same.d ["_law_found", "_law_due"] (liftSp M K 2 (aSameV m))) :
    FnOk P w K mg base CX0 (m + 1) T.d_law_same.a T.d_law_same.d ["_law_found", "_law_due"] (liftSp M K 2 (aSame m)) := by
  refine T.d_law_same.F.ok sc_law_same (fun vs H Q E h => lift_len h) (fun cdv A outer s H vs Q E hr h => ?_)
  obtain ⟨ds, w, Zf, Zw, AQ, AX, hn, ⟨d, rfl, hd, q⟩, L⟩ := h
  refine ⟨_, (pss_cons (ps_if (pt_val (pe_callB (call_isiD (K := K) rfl) (by rfl) T.z_isinstance bt_isinstance (pa_cons (pv 1) (pa_cons (pe_tup (pa_cons (pe_bltn (v := .ty "list") (by rfl) T.z_list bt_list rfl) (pa_cons (pe_bltn (v := .ty "tuple") (by rfl) T.z_tuple bt_tuple rfl) pa_nil))) pa_nil))))
    (pss_cons (ps_if (PW.pt (pw_or (pt_cmpR (op_neK (K := K) rfl (hu64 hr)) (pe_callB (call_isiD (K := K) rfl) (by rfl) T.z_isinstance bt_isinstance (pa_cons (pv 0) (pa_cons (pe_bltn (v := .ty "list") (by rfl) T.z_list bt_list rfl) pa_nil))) (pe_callB (call_isiD (K := K) rfl) (by rfl) T.z_isinstance bt_isinstance (pa_cons (pv 1) (pa_cons (pe_bltn (v := .ty "list") (by rfl) T.z_list bt_list rfl) pa_nil))) (nomark _)) (pw_or1 (pt_cmpR (op_neK (K := K) rfl (hu64 hr)) (pe_callB (call_isiD (K := K) rfl) (by rfl) T.z_isinstance bt_isinstance (pa_cons (pv 0) (pa_cons (pe_bltn (v := .ty "tuple") (by rfl) T.z_tuple bt_tuple rfl) pa_nil))) (pe_callB (call_isiD (K := K) rfl) (by rfl) T.z_isinstance bt_isinstance (pa_cons (pv 1) (pa_cons (pe_bltn (v := .ty "tuple") (by rfl) T.z_tuple bt_tuple rfl) pa_nil))) (nomark _)))))
    (pss_one (ps_ret pe_bl))
    pss_nil)
  (pss_one (ps_ret (pe_and (pe_cmpR (op_eqK (K := K) rfl (hu64 hr)) (pe_callB (call_lenK (K := K) rfl) (by rfl) T.z_len bt_len (pa_cons (pv 0) pa_nil)) (pe_callB (call_lenK (K := K) rfl) (by rfl) T.z_len bt_len (pa_cons (pv 1) pa_nil)) (nomark _)) (pe_one (pe_callB (cr_allK (K := K) rfl rfl) (by rfl) T.z_all bt_all (pa_cons (pe_lc (own := [("_law_one", 2), ("_law_other", 3)]) rfl sc_law_same.nd (piK (f := fun K => iZipA K _) (K := K) rfl (pi_zipA (by rfl) T.z_zip (pa_cons (pv 0) (pa_cons (pv 1) pa_nil)))) (blkOk_by (N := ["_law_found", "_law_due", "_law_one", "_law_other"]) (sc := defScope s_law_same) (own := [("_law_one", 2), ("_law_other", 3)]) (by decide +kernel)) (fun _ _ _ _ _ => (pg_tupK (K := K) (n := 2) rfl rfl (pgs_cons (pg_name (i := 2) sc_law_same.nd rfl (Or.inl rfl)) (pgs_cons (pg_name (i := 3) sc_law_same.nd rfl (Or.inl rfl)) pgs_nil)))) (fun _ _ _ _ _ => pts_nil) (fun _ _ _ _ _ => (pe_call IH hr (by rfl) T.d_law_same.g T.d_law_same.F.kp T.d_law_same.b .nil pass0 (pa_cons (pv 2) (pa_cons (pv 3) pa_nil))))) pa_nil)))))))
    pss_nil)
  (pss_cons (ps_if (PW.pt (pw_or (pt_cmp (pc_isN (pv 1)) rfl) (pw_or1 (pt_val (pe_callB (call_isiD (K := K) rfl) (by rfl) T.z_isinstance bt_isinstance (pa_cons (pv 1) (pa_cons (pe_bltn (v := .ty "str") (by rfl) T.z_str bt_str rfl) pa_nil)))))))
    (pss_one (ps_ret (pe_and (pe_cmpR (op_eqK (K := K) rfl (hu64 hr)) (pv 0) (pv 1) (nomark _)) (pe_one (pe_cmpR (op_eqK (K := K) rfl (hu64 hr)) (pe_callB (call_isiD (K := K) rfl) (by rfl) T.z_isinstance bt_isinstance (pa_cons (pv 0) (pa_cons (pe_bltn (v := .ty "str") (by rfl) T.z_str bt_str rfl) pa_nil))) (pe_callB (call_isiD (K := K) rfl) (by rfl) T.z_isinstance bt_isinstance (pa_cons (pv 1) (pa_cons (pe_bltn (v := .ty "str") (by rfl) T.z_str bt_str rfl) pa_nil))) (nomark _))))))
    pss_nil)
  (pss_one (ps_ret (pe_and (pe_callB (call_isiD (K := K) rfl) (by rfl) T.z_isinstance bt_isinstance (pa_cons (pv 0) (pa_cons (pe_bltn (v := .ty "int") (by rfl) T.z_int bt_int rfl) pa_nil))) (pe_and (pe_not (pe_callB (call_isiD (K := K) rfl) (by rfl) T.z_isinstance bt_isinstance (pa_cons (pv 0) (pa_cons (pe_bltn (v := .ty "bool") (by rfl) T.z_bool bt_bool rfl) pa_nil)))) (pe_one (pe_cmpR (op_eqK (K := K) rfl (hu64 hr)) (pv 0) (pv 1) (nomark _))))))))), ?_⟩
  refine L.go ?_
  clear L hr
  refine at_startE [some (.va (d)), some (.va (d)), none, none] rfl ?_
  cases d with
  | non =>
    walk_at "s"
    rw [decide_eq_true rfl]
    walk_at "s"
    exact q
  | int i => 
    walk_at "s"
    rw [decide_eq_true rfl]
    walk_at "s"
    exact q
  | str z =>
    walk_at "s"
    rw [decide_eq_true rfl]
    walk_at "s"
    rw [decide_eq_true rfl]
    exact q
  | tup l =>
    cases m with
    | zero => exact hd.elim
    | succ m' =>
    walk_at "s"
    rw [decide_eq_true rfl]
    walk_at "s"
    rw [decide_eq_true rfl]
    walk_at "s"
    rw [decide_eq_true rfl]
    walk_at "s"
    refine lc_map [some (.va (.tup l)), some (.va (.tup l)), none, none] rfl (fun _ => .bl true) (by rw [zipD_len]; have := hd.1; omega) (noOw_dec rfl) (by decide) (fun x hx X hX => ?_) ?_
    · rw [zip_self] at hx
      obtain ⟨d, hdm, rfl⟩ := List.mem_map.mp hx
      walk_at "s"
      refine ⟨d, rfl, hd.2 d hdm, ?_⟩
      exact hX _ rfl
    walk_at "s"
    exact q
  | lst l =>
    cases m with
    | zero => exact hd.elim
    | succ m' =>
    walk_at "s"
    rw [decide_eq_true rfl]
    walk_at "s"
    rw [decide_eq_true rfl]
    walk_at "s"
    rw [decide_eq_true rfl]
    walk_at "s"
    refine lc_map [some (.va (.lst l)), some (.va (.lst l)), none, none] rfl (fun _ => .bl true) (by rw [zipD_len]; have := hd.1; omega) (noOw_dec rfl) (by decide) (fun x hx X hX => ?_) ?_
    · rw [zip_self] at hx
      obtain ⟨d, hdm, rfl⟩ := List.mem_map.mp hx
      walk_at "s"
      refine ⟨d, rfl, hd.2 d hdm, ?_⟩
      exact hX _ rfl
    walk_at "s"
    exact q
  | _ => cases m <;> exact hd.elim
theorem okd_same (T : TX K mg) : ∀ m : Nat, FnOk P w K mg base CX0 (m + 1) T.d_law_same.a T.d_law_same.d ["_law_found", "_law_due"] (liftSp M K 2 (aSame m))
  | 0 => same_turn T 0 (fn_never (lift_never fun _ _ _ _ h => h))
  | m + 1 => same_turn T (m + 1) (okd_same T m)
end
end RS
set_option Elab.async false
set_option linter.all false
set_option maxRecDepth 100000
set_option maxHeartbeats 4000000
set_option synthInstance.maxHeartbeats 400000
set_option synthInstance.maxSize 20000

namespace RS
open PySem L2
/-! steps by their heads -/
local macro_rules | `(tactic| walk_at "fr") => `(tactic| first
  | assumption
  | exact SqL.of (by assumption)
  | exact SqT.of (by assumption)
  | exact Or.inl (by assumption)
  | exact Or.inr (by assumption)
  | (refine Gr.get (by assumption) ?_ (by walk_at "nin"); walk_at "fr")
  | (refine Gr.tup (by assumption) _ _ ?_; walk_at "fr")
  | (refine SqL.of ?_; walk_at "fr1")
  | (refine SqT.of ?_; walk_at "fr1")
  | (refine Gr.sqL (by assumption) ?_ (by walk_at "nin"); walk_at "fr")
  | (refine Gr.sqT (by assumption) ?_ (by walk_at "nin"); walk_at "fr")
  | (refine Gr.rep0 (by assumption) ?_; walk_at "fr")
  | (refine Gr.reps0 (by assumption) ?_; walk_at "fr"))
local macro_rules | `(tactic| walk_at "fr1") => `(tactic| first
  | assumption
  | (refine Gr.tup (by assumption) _ _ ?_; walk_at "fr1")
  | (refine Gr.get (by assumption) ?_ (by walk_at "nin"); walk_at "fr1"))
local macro_rules | `(tactic| walk_at "nin") => `(tactic| first
  | exact nin_nil
  | assumption
  | (refine nin_one ?_; walk_at "ne"))
local macro_rules | `(tactic| walk_at "ne") => `(tactic| first
  | assumption
  | exact Ne.symm (by assumption)
  | exact ne_new (by assumption) (by assumption)
  | exact Ne.symm (ne_new (by assumption) (by assumption)))
local macro_rules | `(tactic| walk_at "sz") => `(tactic| first
  | assumption
  | exact rfl
  | omega
  | (simp only [List.length_cons, List.length_nil, List.length_append, List.length_map, CDiv, CDivN, CMul]; omega)
  | decide
  | (constructor <;> first | exact rfl | omega | assumption | (simp only [List.length_cons, List.length_nil, List.length_append, List.length_map]; omega) | decide))
local macro_rules | `(tactic| walk_at "i1") => `(tactic| first
  | ((with_reducible refine' isi_L_list ?vh ?_); (case vh => walk_at "fr"))
  | ((with_reducible refine' isi_T_list ?vh ?_); (case vh => walk_at "fr"))
  | ((with_reducible refine' isi_L_tuple ?vh ?_); (case vh => walk_at "fr"))
  | ((with_reducible refine' isi_T_tuple ?vh ?_); (case vh => walk_at "fr"))
  | ((with_reducible refine' isi_L_str ?vh ?_); (case vh => walk_at "fr"))
  | ((with_reducible refine' isi_T_str ?vh ?_); (case vh => walk_at "fr"))
  | ((with_reducible refine' isi_L_int ?vh ?_); (case vh => walk_at "fr"))
  | ((with_reducible refine' isi_T_int ?vh ?_); (case vh => walk_at "fr"))
  | ((with_reducible refine' isi_L_bool ?vh ?_); (case vh => walk_at "fr"))
  | ((with_reducible refine' isi_T_bool ?vh ?_); (case vh => walk_at "fr")))
local macro_rules | `(tactic| walk_at "s") => `(tactic| repeat (first
  | with_reducible refine Stp.h ?_
  | ((with_reducible refine szc ?_ ?_); walk_at "sz")
  | ((with_reducible refine' w_kTyL ?vh ?_); (case vh => walk_at "fr"))
  | ((with_reducible refine' w_lenL ?vh ?_); (case vh => walk_at "fr"))
  | ((with_reducible refine' w_lenT ?vh ?_); (case vh => walk_at "fr"))))
local macro_rules | `(tactic| walk_at "gr") => `(tactic| first
  | exact Gr.refl _ _
  | assumption
  | exact Gr.wide (by assumption)
  | (refine Gr.trans ?_ (by assumption); walk_at "gr")
  | (refine Gr.trans ?_ (Gr.wide (by assumption)); walk_at "gr"))
local macro_rules | `(tactic| walk_at "s2") => `(tactic| (with_reducible refine Stp.h ?_; with_reducible refine Stp.h ?_))

section
variable {P : Program} {w : World} {K : PySem.W.Frag} {mg : Str → Option Value} {base : Heap}
variable {W : Type} {M : WM W}
/-! what the reading tells: of what depth it is, and that it is new -/
def atomD : PD → Prop
  | .non => True
  | .int _ => True
  | .str _ => True
  | _ => False
theorem okD_atom {d : PD} (m : Nat) (h : atomD d) : okD m d := by cases d <;> first | exact h.elim | (cases m <;> exact trivial)
theorem okD_tup {m : Nat} {l : List PD} (h1 : l.length ≤ 2000000) (h2 : ∀ d ∈ l, okD m d) : okD (m + 1) (.tup l) := ⟨h1, h2⟩
theorem okD_lst {m : Nat} {l : List PD} (h1 : l.length ≤ 2000000) (h2 : ∀ d ∈ l, okD m d) : okD (m + 1) (.lst l) := ⟨h1, h2⟩
theorem value_atom (w : Str) : atomD (valueIn w) := by
  unfold valueIn
  split <;> split <;> exact trivial
def stepA (st : PD) : Prop := ∃ L, st = .tup L ∧ L.length ≤ 4 ∧ ∀ x ∈ L, atomD x
theorem in1 {P : PD → Prop} {a : PD} (h : P a) : ∀ x ∈ [a], P x := fun x hx => by rw [List.mem_singleton.mp hx]; exact h
theorem in2 {P : PD → Prop} {a : PD} {r : List PD} (h : P a) (k : ∀ x ∈ r, P x) : ∀ x ∈ a :: r, P x := fun x hx => by rcases List.mem_cons.mp hx with rfl | hx; exact h; exact k x hx
theorem stepIn_atoms (z : Str) : stepIn z = .non ∨ stepA (stepIn z) := by
  unfold stepIn
  simp only []
  split
  · unfold setIn
    simp only []
    have hv := value_atom (Txt.rpartition (Txt.partition (Txt.partition z " ").2.2 " ").2.2 " ").1
    split
    · exact .inl rfl
    · split
      · exact .inr ⟨_, rfl, by simp, in2 trivial (in2 trivial (in2 hv (in1 trivial)))⟩
      · exact .inl rfl
  · split
    · exact .inr ⟨_, rfl, by simp, in2 trivial (in1 trivial)⟩
    · split
      · exact .inr ⟨_, rfl, by simp, in1 trivial⟩
      · exact .inl rfl
theorem rowsGo_atoms : ∀ {rs : List Str} {m : Int} {l : List (Int × PD)}, rowsGo rs m = some l → ∀ p ∈ l, stepA p.2
  | [], m, l, h => by simp only [rowsGo, Option.some.injEq] at h; subst h; exact fun p hp => nomatch hp
  | r :: rs, m, l, h => by
    unfold rowsGo at h
    split at h
    · cases h
    rename_i d st hone
    split at h
    · cases h
    rename_i l' hl'
    simp only [Option.some.injEq] at h
    subst h
    intro p hp
    rcases List.mem_cons.mp hp with rfl | hp
    · obtain ⟨h1, h2, _⟩ := rowOne_ok hone
      rcases stepIn_atoms (Txt.lstripChars r " ") with h3 | h3
      · rw [h1] at h3
        obtain ⟨_, _, _, h4, _⟩ := h2
        rw [h3] at h4; cases h4
      · rw [h1] at h3; exact h3
    · exact rowsGo_atoms hl' p hp
theorem Shape.len {d : Int} {p : List PD} {l : List (Int × PD)} (h : Shape d p l) : p.length ≤ l.length := by
  induction h with
  | nil => exact Nat.le_refl _
  | plain _ _ ih => simp only [List.length_cons]; omega
  | block _ _ _ _ ih => simp only [List.length_cons, List.length_append]; omega
theorem Shape.okD {d : Int} {p : List PD} {l : List (Int × PD)} (h : Shape d p l) : ∀ k : Nat, (∀ q ∈ l, q.1 ≤ d + (k : Int)) → (∀ q ∈ l, stepA q.2) → l.length ≤ 500 → ∀ x ∈ p, RS.okD (2 * k + 3) x := by
  induction h with
  | nil => exact fun k _ _ _ x hx => nomatch hx
  | plain b _ ih =>
    intro k hk hs hl x hx
    rcases List.mem_cons.mp hx with rfl | hx
    · obtain ⟨L, hL, h1, h2⟩ := hs _ List.mem_cons_self
      obtain rfl := hL
      exact okD_tup (by omega) fun y hy => okD_atom _ (h2 y hy)
    · exact ih k (fun q hq => hk q (List.mem_cons_of_mem _ hq)) (fun q hq => hs q (List.mem_cons_of_mem _ hq)) (by simp only [List.length_cons] at hl; omega) x hx
  | @block d st body pr lb l b hb _ ihb ih =>
    intro k hk hs hl x hx
    simp only [List.length_cons, List.length_append] at hl
    rcases List.mem_cons.mp hx with rfl | hx
    · obtain ⟨L, hL, h1, h2⟩ := hs _ List.mem_cons_self
      obtain rfl := hL
      have hbl := hb.len
      refine okD_tup (m := 2 * k + 2) (l := L ++ [.tup body]) (by rw [List.length_append, List.length_singleton]; omega) fun y hy => ?_
      rcases List.mem_append.mp hy with hy | hy
      · exact okD_atom _ (h2 y hy)
      · rcases List.mem_cons.mp hy with rfl | hy
        · refine okD_tup (m := 2 * k + 1) (by omega) fun z hz => ?_
          cases k with
          | zero =>
            have hlb : lb = [] := by
              cases lb with
              | nil => rfl
              | cons q r =>
                have h3 := hb.low q List.mem_cons_self
                have h4 := hk q (List.mem_cons_of_mem _ List.mem_cons_self)
                omega
            subst hlb
            have := hb.len
            have hb0 : body = [] := List.length_eq_zero_iff.mp (by simpa using this)
            subst hb0
            exact nomatch hz
          | succ j =>
            have := ihb j (fun q hq => by have := hk q (List.mem_cons_of_mem _ (List.mem_append_left _ hq)); omega) (fun q hq => hs q (List.mem_cons_of_mem _ (List.mem_append_left _ hq))) (by omega) z hz
            rw [show 2 * (j + 1) + 1 = 2 * j + 3 by omega]; exact this
        · exact nomatch hy
    · exact ih k (fun q hq => hk q (List.mem_cons_of_mem _ (List.mem_append_right _ hq))) (fun q hq => hs q (List.mem_cons_of_mem _ (List.mem_append_right _ hq))) (by omega) x hx
theorem settingIn_atoms (row : Str) : settingIn row = .non ∨ ∃ s v, settingIn row = .tup [.str s, v] ∧ atomD v := by
  unfold settingIn
  simp only []
  split
  · exact .inl rfl
  · split
    · have hf := value_atom (Txt.partition (Txt.partition row " ").2.2 " ").2.2
      split
      · exact .inl rfl
      · exact .inr ⟨_, _, rfl, hf⟩
    · exact .inr ⟨_, _, rfl, trivial⟩
theorem settingsIn_atoms : ∀ (rows : List Str), ∀ x ∈ settingsIn rows, ∃ s v, x = .tup [.str s, v] ∧ atomD v
  | [], x, hx => nomatch hx
  | r :: rs, x, hx => by
    rcases settingIn_ok r with h1 | ⟨s, v, h1, h2⟩
    · rw [settingsIn_non h1] at hx; exact nomatch hx
    · rw [settingsIn_tup h1] at hx
      rcases List.mem_cons.mp hx with rfl | hx
      · rcases settingIn_atoms r with h3 | ⟨s', v', h3, h4⟩
        · rw [h1] at h3; cases h3
        · rw [h1] at h3; injection h3 with h3; injection h3 with h5 h6; injection h6 with h6 h7; subst h6; exact ⟨_, _, rfl, h4⟩
      · exact settingsIn_atoms rs x hx
theorem fixs_all : ∀ {L : List PD}, (∀ x ∈ L, x.fix = true) → PD.fixs L = true
  | [], _ => rfl
  | x :: r, h => by rw [PD.fixs, h x List.mem_cons_self, fixs_all fun y hy => h y (List.mem_cons_of_mem _ hy)]; rfl
theorem fixs_atoms (L : List PD) (h : ∀ x ∈ L, atomD x) : PD.fixs L = true := fixs_all fun x hx => by have := h x hx; cases x <;> first | exact this.elim | rfl
theorem allSome_len : ∀ {xs : List (Option Int)} {ps : List Int}, allSome xs = some ps → ps.length = xs.length
  | [], ps, h => by cases h; rfl
  | none :: r, ps, h => by cases h
  | some i :: r, ps, h => by
    unfold allSome at h
    rw [Option.map_eq_some_iff] at h
    obtain ⟨l, hl, rfl⟩ := h
    rw [List.length_cons, List.length_cons, allSome_len hl]
theorem picks_len {r : Str} {ps : List Int} (h : picksIn r = some ps) : ps.length ≤ r.length + 1 := by
  have h3 := (split_blank r).2.2
  unfold picksIn at h
  split at h
  · cases h
  · rename_i w0 rr hw
    rw [hw, List.length_cons] at h3
    split at h
    · have := allSome_len h
      rw [List.length_map] at this; omega
    · cases h
/-- what a read sheet is -/
theorem sheet_parts {z : Str} {sets : List PD} {ps : List Int} {prog : List PD} (hm : (Txt.split z "\n").length ≤ 40) (hz : z.length ≤ 1000000) (h : sheetX z = .ok (sets, ps, prog)) :
    (∀ x ∈ sets, ∃ s v, x = .tup [.str s, v] ∧ atomD v) ∧ sets.length ≤ 40 ∧ (∀ x ∈ prog, okD 81 x) ∧ prog.length ≤ 40 ∧ PD.fixs prog = true ∧ PD.fixs sets = true ∧ ps.length ≤ 1000001 := by
  unfold sheetX at h
  simp only [] at h
  split at h
  · cases h
  rename_i r rs hrs
  split at h
  · cases h
  rename_i ps' hps
  split at h
  · cases h
  rename_i l hl
  split at h
  · cases h
  split at h
  · cases h
  injection h with h
  injection h with h1 h
  injection h with h2 h3
  subst h1 h2 h3
  have hlen : (Txt.split z "\n").length = (settingsIn (Txt.split z "\n")).length + (rs.length + 1) := by
    have h5 := congrArg List.length hrs
    have h6 := settingsIn_len (Txt.split z "\n")
    rw [List.length_drop, List.length_cons] at h5
    omega
  obtain ⟨p, sh, hp⟩ := rows_shape hl
  rw [hp]
  have hll := rowsGo_len hl
  have hsa := settingsIn_atoms (Txt.split z "\n")
  refine ⟨hsa, by omega, fun x hx => ?_, ?_, ?_, ?_, ?_⟩
  · exact sh.okD 39 (fun q hq => by have := rowsGo_deep hl q hq; omega) (rowsGo_atoms hl) (by omega) x hx
  · have := sh.len; show p.length ≤ 40; omega
  · have := progC_fix (l := l) (d := 0) fun q hq => by
      obtain ⟨L, h1, _, h2⟩ := rowsGo_atoms hl q hq
      rw [h1]; exact fixs_atoms L h2
    rw [hp] at this; exact this
  · exact fixs_all fun x hx => by
      obtain ⟨s, v, rfl, hv⟩ := hsa x hx
      exact fixs_atoms _ (in2 trivial (in1 hv))
  · have h1 := picks_len hps
    have h2 : r ∈ Txt.split z "\n" := List.mem_of_mem_drop (by rw [hrs]; exact List.mem_cons_self)
    have h3 := (split_line z).2.1 r h2
    omega
theorem ints_rps {H : Hp} {Z : AS1} : ∀ ps : List Int, Rps K Z H (ps.map .int) (ps.map V.int)
  | [] => rps_nil
  | p :: ps => rps_cons mk_int (ints_rps ps)
mutual
theorem rp_fix {H : Hp} : ∀ {d : PD} {v : V} {Z : AS1}, d.fix = true → TRep H d v → Rp K Z H d v
  | .non, v, Z, _, h => by unfold TRep at h; rw [h]; exact mk_non
  | .bl b, v, Z, _, h => by unfold TRep at h; rw [h]; exact mk_bl
  | .int b, v, Z, _, h => by unfold TRep at h; rw [h]; exact mk_int
  | .str b, v, Z, _, h => by unfold TRep at h; rw [h]; exact mk_str
  | .ref b, v, Z, _, h => by unfold TRep at h; rw [h]; exact mk_ref
  | .ty b, v, Z, _, h => by unfold TRep at h; rw [h]; exact mk_ty
  | .ro _, v, Z, _, h => by unfold TRep at h; exact h.elim
  | .lst ds, v, Z, f, h => by simp [PD.fix] at f
  | .tup ds, v, Z, f, h => by
    unfold TRep at h
    obtain ⟨a, xs, rfl, e, t⟩ := h
    unfold PD.fix at f
    exact mk_tup e (rps_fix f t)
theorem rps_fix {H : Hp} : ∀ {d : List PD} {v : List V} {Z : AS1}, PD.fixs d = true → TReps H d v → Rps K Z H d v
  | [], v, Z, _, h => by unfold TReps at h; rw [h]; exact rps_nil
  | d :: ds, v, Z, f, h => by
    unfold TReps at h
    obtain ⟨x, r, rfl, h1, h2⟩ := h
    unfold PD.fixs at f
    rw [Bool.and_eq_true] at f
    exact rps_cons (rp_fix f.1 h1) (rps_fix f.2 h2)
end
/-- a def that raises, where it does not -/
theorem fn_calm {k : Nat} {f : Addr} {fd : FuncData} {ps : List Str} {sp sp' : Sp} (F : FnOk P w K mg base (L2.CX P w) k f fd ps sp) (h : ∀ vs H Q E, sp' vs H Q E → sp vs H Q (fun _ _ _ => False)) : FnOk P w K mg base CX0 k f fd ps sp' :=
  ⟨fun vs H Q E z => F.len vs H Q _ (h vs H Q E z), fun A outer s H args us vs Q E hr he hb hv z => codeAny_mono (F.run A outer s H args us vs Q _ hr he hb hv (h vs H Q E z)) fun r s' q => by
    cases r with
    | error e => obtain ⟨_, _, _, _, _, _, _, _, _, _, _, _, q⟩ := q; exact q.elim
    | ok c => cases c <;> exact q⟩
/-- a good sheet is read -/
def aFrom : ASp W := fun ds w Q _ => ∃ (z : Str) (p : List PD × List Int × List PD), ds = [.str z] ∧ z.length ≤ 1000000 ∧ (Txt.split z "\n").length ≤ 40 ∧ sheetX z = .ok p ∧ Q (sheetD z) w
theorem Lifted.ext {vs : List V} {H : Hp} {R : VK} {E : XK} {ds : List PD} {w : W} {Zf Zw : AS1} {AQ : PD → W → Prop} {AX : XA W} (L : Lifted M K vs H R E ds w Zf Zw AQ AX) {H' : Hp} (g : Gr [] H H') {d : PD} {v : V} (r : Rp K (Zor Zf Zw) H' d v) (q : AQ d w) : R v H' :=
  L.k d w v H' Zw (M.keep _ _ _ _ L.m (fun a z => by obtain ⟨o, h⟩ := M.live _ _ _ a L.m z; rw [h, g.get0 h]) g.tup) L.fw (Gr.ext g) r q
theorem okd_sheet_from (T : TX K mg) : FnOk P w K mg base CX0 42 T.d_sheet_from.a T.d_sheet_from.d ["text"] (liftSp M K 1 aFrom) := by
  refine fn_calm (ok_sheet_from T) fun vs H R E h => ?_
  obtain ⟨ds, w, Zf, Zw, AQ, AX, _, ⟨z, ⟨sets, ps, prog⟩, rfl, hz, hm, hx, q⟩, L⟩ := h
  obtain ⟨v, r, rfl, p1, p2⟩ := rps_cons' L.reps
  obtain rfl := rps_nil' p2
  obtain rfl := rp_str p1
  refine ⟨z, rfl, hz, hm, fun sets' ps' prog' hx' t s p y H' g ht hs hp hsp rs rp ry => ?_, fun k hk => by rw [hx] at hk; cases hk⟩
  rw [hx] at hx'
  injection hx' with hx'
  injection hx' with e1 hx'
  injection hx' with e2 e3
  subst e1 e2 e3
  obtain ⟨_, _, _, _, f1, f2, _⟩ := sheet_parts hm hz hx
  have nz : ∀ {a : Addr}, H a = none → ¬ Zor Zf Zw a := fun ha z => by
    rcases z with z | z
    · obtain ⟨o, h⟩ := L.fl _ z; rw [ha] at h; cases h
    · obtain ⟨o, h⟩ := M.live _ _ _ _ L.m z; rw [ha] at h; cases h
  refine L.ext g (d := sheetD z) ?_ q
  unfold sheetD
  rw [hx]
  obtain ⟨s', xs, e, es, ts⟩ := rep_lst' rs
  cases e
  refine mk_tup ht (rps_cons (mk_lst es (nz hs) (rps_fix f2 ts)) (rps_cons (mk_lst rp (nz hp) ?_) (rps_cons (rp_fix f1 ry) rps_nil)))
  exact ints_rps ps
def aRefused (T : TX K mg) : ASp W := fun ds w Q _ => ∃ (f : Addr) (z : Str) (k : Nat), ds = [.ref f, .str z] ∧ doors T f ∧ z.length ≤ 1000000 ∧ (Txt.split z "\n").length ≤ 40 ∧ sheetX z = .error k ∧ Q (.int (k : Int)) w
theorem okd_law_refused (T : TX K mg) : FnOk P w K mg base CX0 45 T.d_law_refused.a T.d_law_refused.d ["_law_told", "_law_text"] (liftSp M K 2 (aRefused T)) := by
  refine (ok_law_refused T).imp fun vs H R E h => ?_
  obtain ⟨ds, w, Zf, Zw, AQ, AX, _, ⟨f, z, k, rfl, hf, hz, hm, hk, q⟩, L⟩ := h
  obtain ⟨u, v, rfl, p1, p2⟩ := rps_two L.reps
  obtain rfl := rp_ref p1
  obtain rfl := rp_str p2
  exact ⟨f, z, k, rfl, hf, hz, hm, hk, fun H' g => L.ext g mk_int q⟩
end
end RS
set_option Elab.async false
set_option linter.all false
set_option maxRecDepth 100000
set_option maxHeartbeats 4000000
set_option synthInstance.maxHeartbeats 400000
set_option synthInstance.maxSize 20000

namespace RS
open PySem L2
/-! steps by their heads -/
local macro_rules | `(tactic| walk_at "fr") => `(tactic| first
  | assumption
  | exact SqL.of (by assumption)
  | exact SqT.of (by assumption)
  | exact Or.inl (by assumption)
  | exact Or.inr (by assumption)
  | (refine Gr.get (by assumption) ?_ (by walk_at "nin"); walk_at "fr")
  | (refine Gr.tup (by assumption) _ _ ?_; walk_at "fr")
  | (refine SqL.of ?_; walk_at "fr1")
  | (refine SqT.of ?_; walk_at "fr1")
  | (refine Gr.sqL (by assumption) ?_ (by walk_at "nin"); walk_at "fr")
  | (refine Gr.sqT (by assumption) ?_ (by walk_at "nin"); walk_at "fr")
  | (refine Gr.rep0 (by assumption) ?_; walk_at "fr")
  | (refine Gr.reps0 (by assumption) ?_; walk_at "fr"))
local macro_rules | `(tactic| walk_at "fr1") => `(tactic| first
  | assumption
  | (refine Gr.tup (by assumption) _ _ ?_; walk_at "fr1")
  | (refine Gr.get (by assumption) ?_ (by walk_at "nin"); walk_at "fr1"))
local macro_rules | `(tactic| walk_at "nin") => `(tactic| first
  | exact nin_nil
  | assumption
  | (refine nin_one ?_; walk_at "ne"))
local macro_rules | `(tactic| walk_at "ne") => `(tactic| first
  | assumption
  | exact Ne.symm (by assumption)
  | exact ne_new (by assumption) (by assumption)
  | exact Ne.symm (ne_new (by assumption) (by assumption)))
local macro_rules | `(tactic| walk_at "sz") => `(tactic| first
  | assumption
  | exact rfl
  | omega
  | (simp only [List.length_cons, List.length_nil, List.length_append, List.length_map, CDiv, CDivN, CMul]; omega)
  | decide
  | (constructor <;> first | exact rfl | omega | assumption | (simp only [List.length_cons, List.length_nil, List.length_append, List.length_map]; omega) | decide))
local macro_rules | `(tactic| walk_at "i1") => `(tactic| first
  | ((with_reducible refine' isi_L_list ?vh ?_); (case vh => walk_at "fr"))
  | ((with_reducible refine' isi_T_list ?vh ?_); (case vh => walk_at "fr"))
  | ((with_reducible refine' isi_L_tuple ?vh ?_); (case vh => walk_at "fr"))
  | ((with_reducible refine' isi_T_tuple ?vh ?_); (case vh => walk_at "fr"))
  | ((with_reducible refine' isi_L_str ?vh ?_); (case vh => walk_at "fr"))
  | ((with_reducible refine' isi_T_str ?vh ?_); (case vh => walk_at "fr"))
  | ((with_reducible refine' isi_L_int ?vh ?_); (case vh => walk_at "fr"))
  | ((with_reducible refine' isi_T_int ?vh ?_); (case vh => walk_at "fr"))
  | ((with_reducible refine' isi_L_bool ?vh ?_); (case vh => walk_at "fr"))
  | ((with_reducible refine' isi_T_bool ?vh ?_); (case vh => walk_at "fr")))
local macro_rules | `(tactic| walk_at "s") => `(tactic| repeat (first
  | with_reducible refine Stp.h ?_
  | ((with_reducible refine szc ?_ ?_); walk_at "sz")
  | ((with_reducible refine' w_kTyL ?vh ?_); (case vh => walk_at "fr"))
  | ((with_reducible refine' w_lenL ?vh ?_); (case vh => walk_at "fr"))
  | ((with_reducible refine' w_lenT ?vh ?_); (case vh => walk_at "fr"))))
local macro_rules | `(tactic| walk_at "gr") => `(tactic| first
  | exact Gr.refl _ _
  | assumption
  | exact Gr.wide (by assumption)
  | (refine Gr.trans ?_ (by assumption); walk_at "gr")
  | (refine Gr.trans ?_ (Gr.wide (by assumption)); walk_at "gr"))
local macro_rules | `(tactic| walk_at "s2") => `(tactic| (with_reducible refine Stp.h ?_; with_reducible refine Stp.h ?_))

section
variable {P : Program} {w : World} {K : PySem.W.Frag} {mg : Str → Option Value} {base : Heap}
variable {Ω : Type} {M0 : WM Ω}
/-- a good sheet's rows -/
def goodD (sets : List PD) (ps : List Int) (l : List (Int × PD)) : PD := .tup [.lst ((sets.map setRow).map .str), .lst ([weaveRow ps].map .str), .lst ((l.map rowText).map .str)]
def aGood : ASp (BW Ω) := fun ds w Q _ => ∃ (b : Addr), ds = [.ref b] ∧ w.b = some b ∧ w.n + 10000 ≤ 1000000000000 ∧
  ∀ (sets : List PD) (ps : List Int) (prog : List PD) (l : List (Int × PD)) (n' : Int), w.n ≤ n' → n' ≤ w.n + 5000 → WfSh sets ps prog → Flat (sets.map nameOf) 0 prog l → (∀ q ∈ l, q.1 ≤ 2) → l.length ≤ 12 → 1 ≤ sets.length → sets.length ≤ 6 → ps.length ≤ 6 → Q (goodD sets ps l) { w with n := n' }
def goodOut (n : Int) (R : List PD → List Int → List PD → List (Int × PD) → Int → Prop) : Prop :=
  ∀ (sets : List PD) (ps : List Int) (prog : List PD) (l : List (Int × PD)) (n' : Int), n ≤ n' → n' ≤ n + 5000 → WfSh sets ps prog → Flat (sets.map nameOf) 0 prog l → (∀ q ∈ l, q.1 ≤ 2) → l.length ≤ 12 → 1 ≤ sets.length → sets.length ≤ 6 → ps.length ≤ 6 → R sets ps prog l n'
instance {b : Addr} {n : Int} {x : Ω} {Q : PD → BW Ω → Prop} {X : XA (BW Ω)} : Stp (aGood [.ref b] ⟨some b, n, x⟩ Q X) (SzC (n + 10000 ≤ 1000000000000) ∧ goodOut n fun sets ps prog l n' => Q (goodD sets ps l) ⟨some b, n', x⟩) := ⟨fun h => ⟨b, rfl, rfl, h.1, h.2⟩⟩
theorem sc_law_good : FnScope ["_law_box_here", "_law_names_here", "_law_slots", "_law_settings", "_law_name", "_law_picks_here", "_law_turn"] ["_law_box_here"] (defScope s_law_good) := ⟨rfl, rfl, rfl, by decide +kernel, rfl, by decide +kernel, by decide +kernel⟩
theorem okd_law_good (T : TX K mg) : FnOk P w K mg base CX0 7 T.d_law_good.a T.d_law_good.d ["_law_box_here"] (liftSp (boxM M0) K 1 aGood) := by
  refine T.d_law_good.F.ok sc_law_good (fun vs H Q E h => lift_len h) (fun cdv A outer s H vs Q E hr h => ?_)
  obtain ⟨ds, w, Zf, Zw, AQ, AX, hn, ha, L⟩ := h
  refine ⟨_, (pss_cons (ps_par (i := 1) (j := 2) rfl sc_law_good.nd rfl rfl (by decide) rfl rfl (pa_cons (pe_call (okd_law_names (M0 := M0) T) (hr.mono (by decide)) (by rfl) T.d_law_names.g T.d_law_names.F.kp T.d_law_names.b .nil pass0 (pa_cons (pv 0) (pa_cons (pe_op (op_addK (K := K) rfl) pe_int (pe_call (okd_take (M0 := M0) T) (hr.mono (by decide)) (by rfl) T.d_law_take.g T.d_law_take.F.kp T.d_law_take.b .nil pass0 (pa_cons (pv 0) (pa_cons pe_int pa_nil)))) pa_nil))) (pa_cons (pe_call (okd_law_names (M0 := M0) T) (hr.mono (by decide)) (by rfl) T.d_law_names.g T.d_law_names.F.kp T.d_law_names.b .nil pass0 (pa_cons (pv 0) (pa_cons pe_int pa_nil))) pa_nil)) (by rfl))
  (pss_cons (ps_set (i := 3) sc_law_good.nd rfl (Or.inl rfl) (pe_lst pa_nil))
  (pss_cons (ps_for PassesOwn.never rfl (pi_anyK (K := K) rfl (pv 1)) (pg_name (i := 4) sc_law_good.nd rfl (Or.inl rfl))
    (pss_one (ps_expr (pe_bmK (K := K) rfl PySem.F.plainAttrs_list PySem.F.slot_list_append PySem.F.type_list_append mt_append (pv 3) (pa_cons (pe_op (op_addK (K := K) rfl) (pe_op (op_addK (K := K) rfl) pe_str (pv 4)) (pe_ix (ix_anyK (K := K) rfl) (pe_lst (pa_cons pe_str (pa_cons (pe_op (op_addK (K := K) rfl) pe_str (pe_call (okd_law_written (M := boxM M0) T) (hr.mono (by decide)) (by rfl) T.d_law_written.g T.d_law_written.F.kp T.d_law_written.b .nil pass0 (pa_cons (pe_call (okd_law_value (M0 := M0) T) (hr.mono (by decide)) (by rfl) T.d_law_value.g T.d_law_value.F.kp T.d_law_value.b .nil pass0 (pa_cons (pv 0) pa_nil)) pa_nil))) pa_nil))) (pe_call (okd_take (M0 := M0) T) (hr.mono (by decide)) (by rfl) T.d_law_take.g T.d_law_take.F.kp T.d_law_take.b .nil pass0 (pa_cons (pv 0) (pa_cons pe_int pa_nil))) (fun _ _ => rfl))) pa_nil)))))
  (pss_cons (ps_set (i := 5) sc_law_good.nd rfl (Or.inl rfl) (pe_m1 PySem.F.slot_str_join PySem.F.type_str_join (mt_joinK (K := K) rfl) pe_str (pe_op (op_addK (K := K) rfl) (pe_lst (pa_cons pe_str pa_nil)) (pe_lc (own := [("_law_turn", 6)]) rfl sc_law_good.nd (pi_range1 (by rfl) T.z_range (pa_cons (pe_call (okd_take (M0 := M0) T) (hr.mono (by decide)) (by rfl) T.d_law_take.g T.d_law_take.F.kp T.d_law_take.b .nil pass0 (pa_cons (pv 0) (pa_cons pe_int pa_nil))) pa_nil)) (blkOk_by (N := ["_law_box_here", "_law_names_here", "_law_slots", "_law_settings", "_law_name", "_law_picks_here", "_law_turn"]) (sc := defScope s_law_good) (own := [("_law_turn", 6)]) (by decide +kernel)) (fun _ _ _ _ _ => (pg_name (i := 6) sc_law_good.nd rfl (Or.inl rfl))) (fun _ _ _ _ _ => pts_nil) (fun _ _ _ _ _ => (pe_callTy call_strA (by rfl) T.z_str bt_str (pa_cons (pe_call (okd_take (M0 := M0) T) (hr.mono (by decide)) (by rfl) T.d_law_take.g T.d_law_take.F.kp T.d_law_take.b .nil pass0 (pa_cons (pv 0) (pa_cons pe_int pa_nil))) pa_nil)))))))
  (pss_one (ps_ret (pe_tup (pa_cons (pv 3) (pa_cons (pe_lst (pa_cons (pv 5) pa_nil)) (pa_cons (pe_call (okd_rows (M := boxM M0) T 3) (hr.mono (by decide)) (by rfl) T.d_law_rows.g T.d_law_rows.F.kp T.d_law_rows.b .nil pass0 (pa_cons (pe_call (okd_program (M0 := M0) T 2) (hr.mono (by decide)) (by rfl) T.d_law_program.g T.d_law_program.F.kp T.d_law_program.b .nil pass0 (pa_cons (pv 0) (pa_cons (pv 1) (pa_cons (pv 2) (pa_cons (pe_op (op_addK (K := K) rfl) pe_int (pe_call (okd_take (M0 := M0) T) (hr.mono (by decide)) (by rfl) T.d_law_take.g T.d_law_take.F.kp T.d_law_take.b .nil pass0 (pa_cons (pv 0) (pa_cons pe_int pa_nil)))) (pa_cons pe_int pa_nil)))))) (pa_cons pe_int pa_nil))) pa_nil)))))))))), ?_⟩
  refine L.go ?_
  clear L hr
  obtain ⟨w0, n0, x0⟩ := w
  obtain ⟨b, rfl, hb, hn2, q⟩ := ha
  obtain rfl : w0 = some b := hb
  dsimp only at hn2 q
  refine at_startE [some (.va (.ref b)), none, none, none, none, none, none] rfl ?_
  walk_at "s"
  refine fun v1 l1 u1 => ?_
  walk_at "s"
  obtain ⟨k1, rfl⟩ : ∃ k1 : Nat, v1 = (k1 : Int) := ⟨v1.toNat, by omega⟩
  rw [show (1 : Int) + (k1 : Int) = ((1 + k1 : Nat) : Int) by omega]
  refine names_use (by omega) (by omega) fun ns n1 hn1 hn1' hl1 hi1 nd1 => ?_
  walk_at "s"
  refine names_use (many := 2) (by omega) (by omega) fun sl n2 hn2 hn2' hl2 hi2 nd2 => ?_
  walk_at "s"
  have hs8 : (Str.ofString "setting ").length = 8 := by decide +kernel
  have hs1 : (Str.ofString " ").length = 1 := by decide +kernel
  have hs0 : (Str.ofString "").length = 0 := by decide +kernel
  refine for_D (fun i e w' => ∃ (sets : List PD) (s4 : Option PD) (nn : Int), e = [some (.va (.ref b)), some (.va (.lst (ns.map .str))), some (.va (.lst (sl.map .str))), some (.ow ((sets.map setRow).map .str)), s4.map .va, none, none] ∧ w' = ⟨some b, nn, x0⟩ ∧ n2 ≤ nn ∧ nn ≤ n2 + 60 * i ∧ sets.length = i ∧ sets.map nameOf = ns.take i ∧ ∀ d ∈ sets, WfSet d) ?_ ?_ ?_
  · exact ⟨[], none, n2, rfl, rfl, by omega, by omega, rfl, by simp, fun d h => nomatch h⟩
  · rintro i e w' d ⟨sets, s4, nn, rfl, rfl, g1, g2, hsl, hnm, hws⟩ hi hd
    rw [List.length_map] at hi
    have hi6 : i < 7 := by omega
    obtain ⟨nm, hnm2, rfl⟩ : ∃ nm, ns[i]? = some nm ∧ d = .str nm := by
      rw [List.getElem?_map, Option.map_eq_some_iff] at hd
      obtain ⟨nm, h1, h2⟩ := hd
      exact ⟨nm, h1, h2.symm⟩
    have hin : isName nm = true := hi1 _ (List.mem_of_getElem? hnm2)
    have hnl : nm.length ≤ 8 := by rw [TL.len_tl]; exact (isName_open hin).2.1
    walk_at "s"
    refine fun v n3 h3 h3' hv => ?_
    have hwl := written_len hv
    walk_at "s"
    refine fun v2 l2 u2 => ?_
    have pick : ∃ (vd : PD) (z : Str), (vd = .non ∨ wfVal vd) ∧ atI [PD.str (Str.ofString ""), PD.str (Str.ofString " " ++ writtenOf v)] v2 = some (.str z) ∧ z.length ≤ 101 ∧ setRow (.tup [.str nm, vd]) = Str.ofString "setting " ++ nm ++ z := by
      have : v2 = 0 ∨ v2 = 1 := by omega
      rcases this with rfl | rfl
      · exact ⟨.non, _, .inl rfl, rfl, by omega, rfl⟩
      · exact ⟨v, _, .inr hv, rfl, by rw [len_app]; omega, setRow_val hv⟩
    obtain ⟨vd, z, hvd, hat, hzl, hrow⟩ := pick
    refine ix_L hat ?_
    have hal : (Str.ofString "setting " ++ nm).length = 8 + nm.length := by rw [len_app, hs8]
    walk_at "s"
    rw [← hrow]
    refine ⟨sets ++ [.tup [.str nm, vd]], some (.str nm), _, by rw [List.map_append, List.map_append]; rfl, rfl, by omega, by omega, by rw [List.length_append, hsl]; rfl, ?_, fun d hd => ?_⟩
    · rw [List.map_append, hnm, List.take_add_one, hnm2]; rfl
    · rcases List.mem_append.mp hd with hd | hd
      · exact hws d hd
      · rw [List.mem_singleton.mp hd]; exact ⟨nm, vd, rfl, hin, hvd⟩
  rintro e w' ⟨sets, s4, nn, rfl, rfl, g1, g2, hsl, hnm, hws⟩
  rw [List.length_map] at g2 hsl hnm
  rw [List.take_length] at hnm
  walk_at "s"
  refine fun v3 l3 u3 => ?_
  walk_at "s"
  refine lc_inv [some (.va (.ref b)), some (.va (.lst (ns.map .str))), some (.va (.lst (sl.map .str))), some (.ow ((sets.map setRow).map .str)), s4.map .va, none, none] rfl (fun i acc w' => ∃ ps : List Int, acc = ps.map (fun c => PD.str (Str.ofString (toString c))) ∧ ps.length = i ∧ (∀ p ∈ ps, 0 ≤ p ∧ p < 10000) ∧ w' = ⟨some b, nn + 1 + i, x0⟩) ?_ ?_ (noOw_dec rfl) (by decide) (fun i acc w' d => ?_) ?_
  · exact ⟨[], rfl, rfl, (fun p h => nomatch h), by simp⟩
  · simp [intsD]; omega
  · rintro ⟨ps, rfl, hpi, hps, rfl⟩ hi hd
    have hi6 : i < 7 := by simp [intsD] at hi; omega
    walk_at "s"
    refine fun v4 l4 u4 => ?_
    walk_at "s"
    refine szc ?_ ?_
    · by_cases h0 : v4.natAbs = 0
      · rw [h0]; decide
      · exact Nat.lt_of_lt_of_le ((Nat.log2_lt h0).mpr (show v4.natAbs < 2 ^ 14 by omega)) (by decide)
    refine ⟨rfl, ps ++ [v4], by rw [List.map_append]; rfl, by rw [List.length_append, hpi]; rfl, fun p hp => ?_, ?_⟩
    · rcases List.mem_append.mp hp with hp | hp
      · exact hps p hp
      · rw [List.mem_singleton.mp hp]; exact ⟨l4, u4⟩
    · congr 1; omega
  rintro acc w' ⟨ps, rfl, hpi, hps, rfl⟩
  have hp6 : ps.length ≤ 6 := by rw [hpi]; simp [intsD]; omega
  generalize (intsD 0 v3.toNat).length = g at *
  walk_at "s"
  have hwe : [PD.str (Str.ofString "weave")] ++ List.map (fun c => PD.str (Str.ofString (toString c))) ps = ((Str.ofString "weave") :: ps.map fun c => Str.ofString (toString c)).map PD.str := by
    rw [List.map_cons, List.map_map]; rfl
  rw [hwe]
  walk_at "s"
  have hwl := weaveRow_len hps (by omega)
  refine szc ?_ ?_
  · have h2 : (ps.map (Str.length ∘ fun i => Str.ofString (toString i))).sum ≤ ps.length * 4 := sum_le fun x hx => pick_len (hps x hx)
    rw [List.map_cons, List.sum_cons, List.map_map, List.length_cons, List.length_map, hs1, show (Str.ofString "weave").length = 5 by decide +kernel]
    have h3 : (ps.map ((fun x => x.length) ∘ fun i => Str.ofString (toString i))) = (ps.map (Str.length ∘ fun i => Str.ofString (toString i))) := rfl
    rw [h3]; omega
  walk_at "s"
  refine fun v5 l5 u5 => ?_
  walk_at "s"
  obtain ⟨k5, rfl⟩ : ∃ k5 : Nat, v5 = (k5 : Int) := ⟨v5.toNat, by omega⟩
  rw [show (1 : Int) + (k5 : Int) = ((1 + k5 : Nat) : Int) by omega]
  refine ⟨b, ns, sl, 1 + k5, rfl, rfl, by dsimp only; omega, by omega, fun h => ?_, by omega, fun h => ?_, by omega, hi2, fun p n5 h5 h5' wp => ?_⟩
  · subst h; simp at hl1; omega
  · subst h; simp at hl2
  dsimp only at h5 h5'
  walk_at "s"
  have wf : WfSh sets ps p := ⟨hws, by omega, by rw [hnm]; exact nd1, hps, by omega, by rw [hnm]; exact wp.mono (by omega) (by omega)⟩
  obtain ⟨l, fl, hll, hlq⟩ := wp 0
  have fl' : Flat (sets.map nameOf) 0 p l := by rw [hnm]; exact fl
  refine ⟨ns, p, 0, l, rfl, hi1, fl, fun q hq => by have := hlq q hq; omega, by omega, by omega, ?_⟩
  walk_at "s"
  exact q sets ps p l n5 (by omega) (by omega) wf fl' (fun q hq => by have := hlq q hq; omega) (by omega) (by omega) (by omega) hp6
end
end RS
set_option Elab.async false
set_option linter.all false
set_option maxRecDepth 100000
set_option maxHeartbeats 4000000
set_option synthInstance.maxHeartbeats 400000
set_option synthInstance.maxSize 20000

namespace RS
open PySem L2
/-! steps by their heads -/
local macro_rules | `(tactic| walk_at "fr") => `(tactic| first
  | assumption
  | exact SqL.of (by assumption)
  | exact SqT.of (by assumption)
  | exact Or.inl (by assumption)
  | exact Or.inr (by assumption)
  | (refine Gr.get (by assumption) ?_ (by walk_at "nin"); walk_at "fr")
  | (refine Gr.tup (by assumption) _ _ ?_; walk_at "fr")
  | (refine SqL.of ?_; walk_at "fr1")
  | (refine SqT.of ?_; walk_at "fr1")
  | (refine Gr.sqL (by assumption) ?_ (by walk_at "nin"); walk_at "fr")
  | (refine Gr.sqT (by assumption) ?_ (by walk_at "nin"); walk_at "fr")
  | (refine Gr.rep0 (by assumption) ?_; walk_at "fr")
  | (refine Gr.reps0 (by assumption) ?_; walk_at "fr"))
local macro_rules | `(tactic| walk_at "fr1") => `(tactic| first
  | assumption
  | (refine Gr.tup (by assumption) _ _ ?_; walk_at "fr1")
  | (refine Gr.get (by assumption) ?_ (by walk_at "nin"); walk_at "fr1"))
local macro_rules | `(tactic| walk_at "nin") => `(tactic| first
  | exact nin_nil
  | assumption
  | (refine nin_one ?_; walk_at "ne"))
local macro_rules | `(tactic| walk_at "ne") => `(tactic| first
  | assumption
  | exact Ne.symm (by assumption)
  | exact ne_new (by assumption) (by assumption)
  | exact Ne.symm (ne_new (by assumption) (by assumption)))
local macro_rules | `(tactic| walk_at "sz") => `(tactic| first
  | assumption
  | exact rfl
  | omega
  | (simp only [List.length_cons, List.length_nil, List.length_append, List.length_map, CDiv, CDivN, CMul]; omega)
  | decide
  | (constructor <;> first | exact rfl | omega | assumption | (simp only [List.length_cons, List.length_nil, List.length_append, List.length_map]; omega) | decide))
local macro_rules | `(tactic| walk_at "i1") => `(tactic| first
  | ((with_reducible refine' isi_L_list ?vh ?_); (case vh => walk_at "fr"))
  | ((with_reducible refine' isi_T_list ?vh ?_); (case vh => walk_at "fr"))
  | ((with_reducible refine' isi_L_tuple ?vh ?_); (case vh => walk_at "fr"))
  | ((with_reducible refine' isi_T_tuple ?vh ?_); (case vh => walk_at "fr"))
  | ((with_reducible refine' isi_L_str ?vh ?_); (case vh => walk_at "fr"))
  | ((with_reducible refine' isi_T_str ?vh ?_); (case vh => walk_at "fr"))
  | ((with_reducible refine' isi_L_int ?vh ?_); (case vh => walk_at "fr"))
  | ((with_reducible refine' isi_T_int ?vh ?_); (case vh => walk_at "fr"))
  | ((with_reducible refine' isi_L_bool ?vh ?_); (case vh => walk_at "fr"))
  | ((with_reducible refine' isi_T_bool ?vh ?_); (case vh => walk_at "fr")))
local macro_rules | `(tactic| walk_at "s") => `(tactic| repeat (first
  | with_reducible refine Stp.h ?_
  | ((with_reducible refine szc ?_ ?_); walk_at "sz")
  | ((with_reducible refine' w_kTyL ?vh ?_); (case vh => walk_at "fr"))
  | ((with_reducible refine' w_lenL ?vh ?_); (case vh => walk_at "fr"))
  | ((with_reducible refine' w_lenT ?vh ?_); (case vh => walk_at "fr"))))
local macro_rules | `(tactic| walk_at "gr") => `(tactic| first
  | exact Gr.refl _ _
  | assumption
  | exact Gr.wide (by assumption)
  | (refine Gr.trans ?_ (by assumption); walk_at "gr")
  | (refine Gr.trans ?_ (Gr.wide (by assumption)); walk_at "gr"))
local macro_rules | `(tactic| walk_at "s2") => `(tactic| (with_reducible refine Stp.h ?_; with_reducible refine Stp.h ?_))

section
variable {P : Program} {w : World} {K : PySem.W.Frag} {mg : Str → Option Value} {base : Heap}
variable {Ω : Type} {M0 : WM Ω}
/-- a row: not long, of one line -/
def rowOk (n : Nat) (r : Str) : Prop := r.length ≤ 300 + 40 * n ∧ 10 ∉ TL.tl r
structure RowsOk (n : Nat) (ss ps pr : List Str) : Prop where
  s0 : 1 ≤ ss.length
  s1 : ss.length ≤ 6 + n
  p1 : ps.length ≤ 2 ^ n
  r1 : pr.length ≤ 12 + n
  so : ∀ r ∈ ss, rowOk n r ∧ 32 ∈ TL.tl r
  po : ∀ r ∈ ps, rowOk n r
  ro : ∀ r ∈ pr, rowOk n r
theorem rowOk.up {n : Nat} {r : Str} (h : rowOk n r) : rowOk (n + 1) r := ⟨by have := h.1; omega, h.2⟩
theorem rowOk.add {n : Nat} {r x : Str} (h : rowOk n r) (hx : x.length ≤ 40) (h2 : 10 ∉ TL.tl x) : rowOk (n + 1) (r ++ x) :=
  ⟨by rw [len_app]; have := h.1; omega, by rw [TL.tl_append]; exact fun h3 => (List.mem_append.mp h3).elim h.2 h2⟩
theorem spl_parts {S : List Nat} : ∀ (l : List Nat) (k : Nat) (acc : List Nat), ∀ p ∈ TL.spl S k acc l, ∀ c ∈ p, c ∈ acc ∨ c ∈ l
  | [], k, acc, p, hp, c, hc => by rw [TL.spl_nil] at hp; rw [List.mem_singleton.mp hp] at hc; exact .inl hc
  | a :: r, 0, acc, p, hp, c, hc => by
    unfold TL.spl at hp
    split at hp
    · rcases List.mem_cons.mp hp with rfl | hp
      · exact .inl hc
      · rcases spl_parts r _ _ p hp c hc with h | h
        · exact nomatch h
        · exact .inr (List.mem_cons_of_mem _ h)
    · rcases spl_parts r _ _ p hp c hc with h | h
      · rcases List.mem_append.mp h with h | h
        · exact .inl h
        · rw [List.mem_singleton.mp h]; exact .inr List.mem_cons_self
      · exact .inr (List.mem_cons_of_mem _ h)
  | a :: r, k + 1, acc, p, hp, c, hc => by
    unfold TL.spl at hp
    rcases spl_parts r _ _ p hp c hc with h | h
    · exact .inl h
    · exact .inr (List.mem_cons_of_mem _ h)
theorem spl_two {s : Nat} : ∀ (l acc : List Nat), s ∈ l → 2 ≤ (TL.spl [s] 0 acc l).length
  | [], acc, h => nomatch h
  | a :: r, acc, h => by
    unfold TL.spl
    split
    · have : TL.spl [s] ([s].length - 1) [] r ≠ [] := spl_ne _ _ _ _
      have := List.length_pos_iff.mpr this
      rw [List.length_cons]; omega
    · rename_i hp
      have hne : s ≠ a := fun e => by subst e; exact hp (by simp [TL.pre])
      exact spl_two r _ (by rcases List.mem_cons.mp h with h | h; exact absurd h hne; exact h)
theorem split_cols {r : Str} (h : 32 ∈ TL.tl r) : ∃ x, (Txt.split r " ")[1]? = some x ∧ x.length ≤ r.length ∧ ∀ c ∈ TL.tl x, c ∈ TL.tl r := by
  have e := TL.split_spl r " " (by decide +kernel) (TL.kind_ok (by decide +kernel))
  rw [show TL.tl (" " : Str) = [32] by decide +kernel] at e
  have h2 := spl_two _ [] h
  rw [← e, List.length_map] at h2
  refine ⟨(Txt.split r " ")[1], List.getElem?_eq_getElem (by omega), (split_blank r).2.1 _ (List.getElem_mem _), fun c hc => ?_⟩
  have hm : TL.tl (Txt.split r " ")[1] ∈ TL.spl [32] 0 [] (TL.tl r) := by rw [← e]; exact List.mem_map_of_mem (List.getElem_mem _)
  exact (spl_parts _ _ _ _ hm c hc).resolve_left fun h => nomatch h
def rowsD (ss ps pr : List Str) : PD := .tup [.lst (ss.map .str), .lst (ps.map .str), .lst (pr.map .str)]
def aFault : ASp (BW Ω) := fun ds w Q _ => ∃ (b : Addr) (k : Nat) (ss ps pr : List Str) (nm : Str), ds = [.ref b, rowsD ss ps pr, .str nm] ∧ w.b = some b ∧ w.n + 100 ≤ 1000000000000 ∧ k ≤ 3 ∧ RowsOk k ss ps pr ∧ isName nm = true ∧
  ∀ (ss' ps' pr' : List Str) (n' : Int), w.n ≤ n' → n' ≤ w.n + 10 → RowsOk (k + 1) ss' ps' pr' → Q (rowsD ss' ps' pr') { w with n := n' }
theorem RowsOk.up {k : Nat} {ss ps pr : List Str} (ro : RowsOk k ss ps pr) : (∀ r ∈ ss, rowOk (k + 1) r ∧ 32 ∈ TL.tl r) ∧ (∀ r ∈ ps, rowOk (k + 1) r) ∧ (∀ r ∈ pr, rowOk (k + 1) r) ∧ ps.length ≤ 2 ^ (k + 1) :=
  ⟨fun r h => ⟨(ro.so r h).1.up, (ro.so r h).2⟩, fun r h => (ro.po r h).up, fun r h => (ro.ro r h).up, by have := ro.p1; rw [Nat.pow_succ]; omega⟩
theorem RowsOk.sets {k i j : Nat} {ss ps pr : List Str} {x : Str} (ro : RowsOk k ss ps pr) (hij : i ≤ j) (hx : rowOk (k + 1) x) (h32 : 32 ∈ TL.tl x) : RowsOk (k + 1) (ss.take i ++ [x] ++ ss.drop j) ps pr := by
  obtain ⟨h1, h2, h3, h4⟩ := ro.up
  have := ro.s1
  refine ⟨by simp; omega, by simp; omega, h4, by have := ro.r1; omega, fun r hr => ?_, h2, h3⟩
  rcases List.mem_append.mp hr with hr | hr
  · rcases List.mem_append.mp hr with hr | hr
    · exact h1 r (List.mem_of_mem_take hr)
    · rw [List.mem_singleton.mp hr]; exact ⟨hx, h32⟩
  · exact h1 r (List.mem_of_mem_drop hr)
theorem RowsOk.prog {k i : Nat} {ss ps pr : List Str} {x : Str} (ro : RowsOk k ss ps pr) (hx : rowOk (k + 1) x) : RowsOk (k + 1) ss ps (pr.take i ++ [x] ++ pr.drop i) := by
  obtain ⟨h1, h2, h3, h4⟩ := ro.up
  have := ro.r1
  refine ⟨ro.s0, by have := ro.s1; omega, h4, by simp; omega, h1, h2, fun r hr => ?_⟩
  rcases List.mem_append.mp hr with hr | hr
  · rcases List.mem_append.mp hr with hr | hr
    · exact h3 r (List.mem_of_mem_take hr)
    · rw [List.mem_singleton.mp hr]; exact hx
  · exact h3 r (List.mem_of_mem_drop hr)
theorem RowsOk.picks {k : Nat} {ss ps pr ps' : List Str} (ro : RowsOk k ss ps pr) (hl : ps'.length ≤ 2 ^ (k + 1)) (hx : ∀ r ∈ ps', rowOk (k + 1) r) : RowsOk (k + 1) ss ps' pr := by
  obtain ⟨h1, h2, h3, h4⟩ := ro.up
  exact ⟨ro.s0, by have := ro.s1; omega, hl, by have := ro.r1; omega, h1, hx, h3⟩
theorem map3 (a c : List Str) (x : Str) : a.map PD.str ++ [PD.str x] ++ c.map PD.str = (a ++ [x] ++ c).map PD.str := by simp
theorem sc_law_with_fault : FnScope ["_law_box_here", "_law_rows_here", "_law_name", "_law_settings", "_law_picks_here", "_law_program_here", "_law_way", "_law_at", "_law_to", "_law_words", "_law_more", "_law_word", "_law_row", "_law_spot", "_law_ahead"] ["_law_box_here", "_law_rows_here", "_law_name"] (defScope s_law_with_fault) := ⟨rfl, rfl, rfl, by decide +kernel, rfl, by decide +kernel, by decide +kernel⟩
theorem okd_law_with_fault (T : TX K mg) : FnOk P w K mg base CX0 2 T.d_law_with_fault.a T.d_law_with_fault.d ["_law_box_here", "_law_rows_here", "_law_name"] (liftSp (boxM M0) K 3 aFault) := by
  refine T.d_law_with_fault.F.ok sc_law_with_fault (fun vs H Q E h => lift_len h) (fun cdv A outer s H vs Q E hr h => ?_)
  obtain ⟨ds, w, Zf, Zw, AQ, AX, hn, ha, L⟩ := h
  refine ⟨_, (pss_cons (ps_asg (pv 1) (pg_tupK (K := K) (n := 3) rfl rfl (pgs_cons (pg_name (i := 3) sc_law_with_fault.nd rfl (Or.inl rfl)) (pgs_cons (pg_name (i := 4) sc_law_with_fault.nd rfl (Or.inl rfl)) (pgs_cons (pg_name (i := 5) sc_law_with_fault.nd rfl (Or.inl rfl)) pgs_nil)))))
  (pss_cons (ps_par3 (i := 6) (j := 7) (l := 8) rfl sc_law_with_fault.nd rfl rfl rfl (by decide) (by decide) (by decide) rfl rfl rfl (pa_cons (pe_call (okd_take (M0 := M0) T) (hr.mono (by decide)) (by rfl) T.d_law_take.g T.d_law_take.F.kp T.d_law_take.b .nil pass0 (pa_cons (pv 0) (pa_cons pe_int pa_nil))) (pa_cons (pe_call (okd_take (M0 := M0) T) (hr.mono (by decide)) (by rfl) T.d_law_take.g T.d_law_take.F.kp T.d_law_take.b .nil pass0 (pa_cons (pv 0) (pa_cons (pe_callB (call_lenK (K := K) rfl) (by rfl) T.z_len bt_len (pa_cons (pv 3) pa_nil)) pa_nil))) (pa_cons (pe_call (okd_take (M0 := M0) T) (hr.mono (by decide)) (by rfl) T.d_law_take.g T.d_law_take.F.kp T.d_law_take.b .nil pass0 (pa_cons (pv 0) (pa_cons (pe_op (op_addK (K := K) rfl) (pe_callB (call_lenK (K := K) rfl) (by rfl) T.z_len bt_len (pa_cons (pv 3) pa_nil)) pe_int) pa_nil))) pa_nil))) (by rfl))
  (pss_cons (ps_if (pt_cmpR (op_eqK (K := K) rfl (hu64 hr)) (pv 6) pe_int (nomark _))
    (pss_cons (ps_set (i := 9) sc_law_with_fault.nd rfl (Or.inl rfl) (pe_ix (ix_anyK (K := K) rfl) (pe_lst (pa_cons pe_str (pa_cons pe_str (pa_cons pe_str (pa_cons pe_str (pa_cons pe_str pa_nil)))))) (pe_call (okd_take (M0 := M0) T) (hr.mono (by decide)) (by rfl) T.d_law_take.g T.d_law_take.F.kp T.d_law_take.b .nil pass0 (pa_cons (pv 0) (pa_cons pe_int pa_nil))) (fun _ _ => rfl)))
  (pss_one (ps_ret (pe_tup (pa_cons (pe_op (op_addK (K := K) rfl) (pe_op (op_addK (K := K) rfl) (pe_slice (sl_anyK (K := K) rfl) (pv 3) po_none (po_some (pv 7))) (pe_lst (pa_cons (pe_op (op_addK (K := K) rfl) (pe_ix (ix_anyK (K := K) rfl) (pv 3) (pv 7) (fun _ _ => rfl)) (pv 9)) pa_nil))) (pe_slice (sl_anyK (K := K) rfl) (pv 3) (po_some (pe_op (op_addK (K := K) rfl) (pv 7) pe_int)) po_none)) (pa_cons (pv 4) (pa_cons (pv 5) pa_nil)))))))
    pss_nil)
  (pss_cons (ps_if (pt_cmpR op_lt (pv 6) pe_int (nomark _))
    (pss_cons (ps_set (i := 10) sc_law_with_fault.nd rfl (Or.inl rfl) (pe_ix (ix_anyK (K := K) rfl) (pe_lst (pa_cons (pe_op (op_addK (K := K) rfl) pe_str (pe_ix (ix_anyK (K := K) rfl) (pe_m1 PySem.F.slot_str_split PySem.F.type_str_split mt_splitA (pe_ix (ix_anyK (K := K) rfl) (pv 3) (pv 7) (fun _ _ => rfl)) pe_str) pe_int (fun _ _ => rfl))) (pa_cons (pe_ix (ix_anyK (K := K) rfl) (pv 3) (pv 7) (fun _ _ => rfl)) pa_nil))) (pe_op op_sub (pv 6) pe_int) (fun _ _ => rfl)))
  (pss_one (ps_ret (pe_tup (pa_cons (pe_op (op_addK (K := K) rfl) (pe_op (op_addK (K := K) rfl) (pe_slice (sl_anyK (K := K) rfl) (pv 3) po_none (po_some (pv 8))) (pe_lst (pa_cons (pv 10) pa_nil))) (pe_slice (sl_anyK (K := K) rfl) (pv 3) (po_some (pv 8)) po_none)) (pa_cons (pv 4) (pa_cons (pv 5) pa_nil)))))))
    pss_nil)
  (pss_cons (ps_if (pt_cmpR (op_eqK (K := K) rfl (hu64 hr)) (pv 6) pe_int (nomark _))
    (pss_cons (ps_set (i := 11) sc_law_with_fault.nd rfl (Or.inr rfl) (pe_ix (ix_anyK (K := K) rfl) (pe_lst (pa_cons pe_str (pa_cons pe_str (pa_cons pe_str (pa_cons pe_str (pa_cons pe_str pa_nil)))))) (pe_call (okd_take (M0 := M0) T) (hr.mono (by decide)) (by rfl) T.d_law_take.g T.d_law_take.F.kp T.d_law_take.b .nil pass0 (pa_cons (pv 0) (pa_cons pe_int pa_nil))) (fun _ _ => rfl)))
  (pss_one (ps_ret (pe_tup (pa_cons (pv 3) (pa_cons (pe_lc (own := [("_law_row", 12)]) rfl sc_law_with_fault.nd (pi_anyK (K := K) rfl (pv 4)) (blkOk_by (N := ["_law_box_here", "_law_rows_here", "_law_name", "_law_settings", "_law_picks_here", "_law_program_here", "_law_way", "_law_at", "_law_to", "_law_words", "_law_more", "_law_word", "_law_row", "_law_spot", "_law_ahead"]) (sc := defScope s_law_with_fault) (own := [("_law_row", 12)]) (by decide +kernel)) (fun _ _ _ _ _ => (pg_name (i := 12) sc_law_with_fault.nd rfl (Or.inl rfl))) (fun _ _ _ _ _ => pts_nil) (fun _ _ _ _ _ => (pe_op (op_addK (K := K) rfl) (pv 12) (pv 11)))) (pa_cons (pv 5) pa_nil)))))))
    pss_nil)
  (pss_cons (ps_if (pt_cmpR (op_eqK (K := K) rfl (hu64 hr)) (pv 6) pe_int (nomark _))
    (pss_one (ps_ret (pe_tup (pa_cons (pv 3) (pa_cons (pe_ix (ix_anyK (K := K) rfl) (pe_lst (pa_cons (pe_lst pa_nil) (pa_cons (pe_op (op_addK (K := K) rfl) (pv 4) (pv 4)) (pa_cons (pe_op (op_addK (K := K) rfl) (pv 4) (pe_slice (sl_anyK (K := K) rfl) (pv 3) po_none (po_some pe_int))) (pa_cons (pe_op (op_addK (K := K) rfl) (pe_slice (sl_anyK (K := K) rfl) (pv 5) po_none (po_some pe_int)) (pv 4)) pa_nil))))) (pe_call (okd_take (M0 := M0) T) (hr.mono (by decide)) (by rfl) T.d_law_take.g T.d_law_take.F.kp T.d_law_take.b .nil pass0 (pa_cons (pv 0) (pa_cons pe_int pa_nil))) (fun _ _ => rfl)) (pa_cons (pv 5) pa_nil))))))
    pss_nil)
  (pss_cons (ps_set (i := 13) sc_law_with_fault.nd rfl (Or.inl rfl) (pe_call (okd_take (M0 := M0) T) (hr.mono (by decide)) (by rfl) T.d_law_take.g T.d_law_take.F.kp T.d_law_take.b .nil pass0 (pa_cons (pv 0) (pa_cons (pe_op (op_addK (K := K) rfl) (pe_callB (call_lenK (K := K) rfl) (by rfl) T.z_len bt_len (pa_cons (pv 5) pa_nil)) pe_int) pa_nil))))
  (pss_cons (ps_set (i := 12) sc_law_with_fault.nd rfl (Or.inl rfl) (pe_lst (pa_cons (pe_op (op_addK (K := K) rfl) pe_str (pv 2)) (pa_cons (pe_op (op_addK (K := K) rfl) (pe_op (op_addK (K := K) rfl) (pe_op (op_addK (K := K) rfl) pe_str (pv 2)) pe_str) (pv 2)) (pa_cons (pe_op (op_addK (K := K) rfl) (pe_op (op_addK (K := K) rfl) pe_str (pv 2)) pe_str) (pa_cons pe_str (pa_cons pe_str (pa_cons pe_str pa_nil))))))))
  (pss_cons (ps_set (i := 14) sc_law_with_fault.nd rfl (Or.inl rfl) (pe_ifExp (pt_cmpR op_gt (pv 13) pe_int (nomark _)) (pe_ix (ix_anyK (K := K) rfl) (pv 5) (pe_op op_sub (pv 13) pe_int) (fun _ _ => rfl)) pe_str))
  (pss_cons (ps_set (i := 10) sc_law_with_fault.nd rfl (Or.inl rfl) (pe_op (op_addK (K := K) rfl) (pe_op op_mulA pe_str (pe_op op_sub (pe_callB (call_lenK (K := K) rfl) (by rfl) T.z_len bt_len (pa_cons (pv 14) pa_nil)) (pe_callB (call_lenK (K := K) rfl) (by rfl) T.z_len bt_len (pa_cons (pe_m1 PySem.F.slot_str_lstrip PySem.F.type_str_lstrip mt_lstripA (pv 14) pe_str) pa_nil)))) (pe_ix (ix_anyK (K := K) rfl) (pv 12) (pe_ix (ix_anyK (K := K) rfl) (pe_lst (pa_cons pe_int (pa_cons pe_int (pa_cons pe_int (pa_cons pe_int (pa_cons pe_int (pa_cons pe_int (pa_cons pe_int pa_nil)))))))) (pe_call (okd_take (M0 := M0) T) (hr.mono (by decide)) (by rfl) T.d_law_take.g T.d_law_take.F.kp T.d_law_take.b .nil pass0 (pa_cons (pv 0) (pa_cons pe_int pa_nil))) (fun _ _ => rfl)) (fun _ _ => rfl))))
  (pss_one (ps_ret (pe_tup (pa_cons (pv 3) (pa_cons (pv 4) (pa_cons (pe_op (op_addK (K := K) rfl) (pe_op (op_addK (K := K) rfl) (pe_slice (sl_anyK (K := K) rfl) (pv 5) po_none (po_some (pv 13))) (pe_lst (pa_cons (pv 10) pa_nil))) (pe_slice (sl_anyK (K := K) rfl) (pv 5) (po_some (pv 13)) po_none)) pa_nil)))))))))))))))), ?_⟩
  refine L.go ?_
  clear L hr
  obtain ⟨w0, n0, x0⟩ := w
  obtain ⟨b, k, ss, ps, pr, nm, rfl, hb, hn2, hk, ro, hnm, q⟩ := ha
  obtain rfl : w0 = some b := hb
  dsimp only at hn2 q
  unfold rowsD
  refine at_startE [some (.va (.ref b)), some (.va (.tup [.lst (ss.map .str), .lst (ps.map .str), .lst (pr.map .str)])), some (.va (.str nm)), none, none, none, none, none, none, none, none, none, none, none, none] rfl ?_
  have ls : 1 ≤ ss.length := ro.s0
  have ls2 := ro.s1
  walk_at "s"
  refine fun v1 l1 u1 => ?_
  walk_at "s"
  refine fun v2 l2 u2 => ?_
  rw [List.length_map] at u2
  walk_at "s"
  refine fun v3 l3 u3 => ?_
  rw [List.length_map] at u3
  obtain ⟨i2, rfl⟩ : ∃ i : Nat, v2 = (i : Int) := ⟨v2.toNat, by omega⟩
  obtain ⟨i3, rfl⟩ : ∃ i : Nat, v3 = (i : Int) := ⟨v3.toNat, by omega⟩
  have hi2 : i2 < ss.length := by omega
  obtain ⟨r2, hr2⟩ : ∃ r, ss[i2]? = some r := ⟨ss[i2], List.getElem?_eq_getElem hi2⟩
  have hat2 : atI (ss.map PD.str) (i2 : Int) = some (PD.str r2) := atI_map (atI_nat' hr2)
  have hok2 := ro.so r2 (List.mem_of_getElem? hr2)
  have hl2 := hok2.1.1
  walk_at "s"
  refine iteB (fun c0 => ?_) (fun c0 => ?_)
  · walk_at "s"
    refine fun v4 l4 u4 => ?_
    obtain ⟨x, hx, hxl, hx10⟩ : ∃ x : Str, atI [PD.str (Str.ofString " "), PD.str (Str.ofString "A"), PD.str (Str.ofString " 01"), PD.str (Str.ofString " ' "), PD.str (Str.ofString "  7")] v4 = some (.str x) ∧ x.length ≤ 40 ∧ 10 ∉ TL.tl x := by
      have : v4 = 0 ∨ v4 = 1 ∨ v4 = 2 ∨ v4 = 3 ∨ v4 = 4 := by omega
      rcases this with rfl | rfl | rfl | rfl | rfl <;> exact ⟨_, rfl, by decide +kernel, by decide +kernel⟩
    refine ix_L hx ?_
    walk_at "s"
    refine ix_L hat2 ?_
    walk_at "s"
    rw [cutD_take]
    refine szc (by simp; omega) ?_
    walk_at "s"
    rw [show (i2 : Int) + 1 = ((i2 + 1 : Nat) : Int) by omega, cutD_drop]
    refine szc (by simp; omega) ?_
    walk_at "s"
    rw [map3]
    exact q _ _ _ _ (by omega) (by omega) (ro.sets (by omega) (hok2.1.add hxl hx10) (by rw [TL.tl_append]; exact List.mem_append_left _ hok2.2))
  walk_at "s"
  refine iteB (fun c1 => ?_) (fun c1 => ?_)
  · walk_at "s"
    refine ix_L hat2 ?_
    walk_at "s"
    obtain ⟨x, hx, hxl, hxs⟩ := split_cols hok2.2
    refine ix_L (atI_map (atI_nat' (i := 1) hx)) ?_
    have s8 : (Str.ofString "setting ").length = 8 := by decide +kernel
    walk_at "s"
    refine ix_L hat2 ?_
    walk_at "s"
    obtain ⟨y, hy, hy1, hy2⟩ : ∃ y : Str, atI [PD.str (Str.ofString "setting " ++ x), PD.str r2] (v1 - 1) = some (.str y) ∧ rowOk (k + 1) y ∧ 32 ∈ TL.tl y := by
      have c1' : v1 < 3 := by simpa using c1
      have c0' : v1 ≠ 0 := by simpa using c0
      have : v1 = 1 ∨ v1 = 2 := by omega
      rcases this with rfl | rfl
      · refine ⟨_, rfl, ⟨by rw [len_app]; omega, ?_⟩, ?_⟩
        · rw [TL.tl_append]
          exact fun h => (List.mem_append.mp h).elim (by decide +kernel) fun h => hok2.1.2 (hxs _ h)
        · rw [TL.tl_append]; exact List.mem_append_left _ (by decide +kernel)
      · exact ⟨_, rfl, hok2.1.up, hok2.2⟩
    refine ix_L hy ?_
    walk_at "s"
    rw [cutD_take]
    refine szc (by simp; omega) ?_
    walk_at "s"
    rw [cutD_drop]
    refine szc (by simp; omega) ?_
    walk_at "s"
    rw [map3]
    exact q _ _ _ _ (by omega) (by omega) (ro.sets (Nat.le_refl _) hy1 hy2)
  walk_at "s"
  have pl1 : ps.length ≤ 8 := Nat.le_trans ro.p1 (Nat.pow_le_pow_right (by decide) hk)
  have rl1 := ro.r1
  refine iteB (fun c2 => ?_) (fun c2 => ?_)
  · walk_at "s"
    refine fun v4 l4 u4 => ?_
    obtain ⟨x, hx, hxl, hx10⟩ : ∃ x : Str, atI [PD.str (Str.ofString " 10000"), PD.str (Str.ofString " 07"), PD.str (Str.ofString " -1"), PD.str (Str.ofString " "), PD.str (Str.ofString " a")] v4 = some (.str x) ∧ x.length ≤ 40 ∧ 10 ∉ TL.tl x := by
      have : v4 = 0 ∨ v4 = 1 ∨ v4 = 2 ∨ v4 = 3 ∨ v4 = 4 := by omega
      rcases this with rfl | rfl | rfl | rfl | rfl <;> exact ⟨_, rfl, by decide +kernel, by decide +kernel⟩
    refine ix_L hx ?_
    walk_at "s"
    refine lc_mapF (k := PD.str) [some (.va (.ref b)), some (.va (.tup [.lst (ss.map .str), .lst (ps.map .str), .lst (pr.map .str)])), some (.va (.str nm)), some (.va (.lst (ss.map .str))), some (.va (.lst (ps.map .str))), some (.va (.lst (pr.map .str))), some (.va (.int v1)), some (.va (.int (i2 : Int))), some (.va (.int (i3 : Int))), none, none, some (.va (.str x)), none, none, none] rfl (fun r => PD.str (r ++ x)) (by omega) (noOw_dec rfl) (by decide) (fun r hr X hX => ?_) ?_
    · have := (ro.po r hr).1
      walk_at "s"
      exact hX _ rfl
    walk_at "s"
    rw [show (List.map (fun r => PD.str (r ++ x)) ps) = (ps.map fun r => r ++ x).map PD.str by rw [List.map_map]; rfl]
    exact q _ _ _ _ (by omega) (by omega) (ro.picks (by rw [List.length_map]; have := ro.p1; rw [Nat.pow_succ]; omega) fun r hr => by
      obtain ⟨r', h, rfl⟩ := List.mem_map.mp hr
      exact (ro.po r' h).add hxl hx10)
  walk_at "s"
  have tk1 : ∀ l : List Str, cutD (l.map PD.str) none (some 1) = (l.take 1).map PD.str := fun l => cutD_take PD.str l 1
  refine iteB (fun c3 => ?_) (fun c3 => ?_)
  · walk_at "s"
    rw [tk1]
    refine szc (by rw [List.length_map, List.length_map, List.length_take]; omega) ?_
    walk_at "s"
    rw [tk1]
    refine szc (by rw [List.length_map, List.length_map, List.length_take]; omega) ?_
    walk_at "s"
    refine fun v4 l4 u4 => ?_
    have p2 : 2 ^ (k + 1) = 2 ^ k + 2 ^ k := by rw [Nat.pow_succ]; omega
    have p0 : 1 ≤ 2 ^ k := Nat.one_le_two_pow
    have pp1 := ro.p1
    obtain ⟨w1, w2, w3, w4⟩ := ro.up
    obtain ⟨ps', hps', hl', hok'⟩ : ∃ ps' : List Str, atI [PD.lst [], PD.lst (List.map PD.str ps ++ List.map PD.str ps), PD.lst (List.map PD.str ps ++ List.map PD.str (List.take 1 ss)), PD.lst (List.map PD.str (List.take 1 pr) ++ List.map PD.str ps)] v4 = some (.lst (ps'.map .str)) ∧ ps'.length ≤ 2 ^ (k + 1) ∧ ∀ r ∈ ps', rowOk (k + 1) r := by
      have : v4 = 0 ∨ v4 = 1 ∨ v4 = 2 ∨ v4 = 3 := by omega
      rcases this with rfl | rfl | rfl | rfl
      · exact ⟨[], rfl, Nat.zero_le _, fun r h => nomatch h⟩
      · exact ⟨ps ++ ps, by rw [List.map_append]; rfl, by rw [List.length_append]; omega, fun r h => (List.mem_append.mp h).elim (w2 r) (w2 r)⟩
      · exact ⟨ps ++ ss.take 1, by rw [List.map_append]; rfl, by rw [List.length_append, List.length_take]; omega, fun r h => (List.mem_append.mp h).elim (w2 r) fun h => (w1 r (List.mem_of_mem_take h)).1⟩
      · exact ⟨pr.take 1 ++ ps, by rw [List.map_append]; rfl, by rw [List.length_append, List.length_take]; omega, fun r h => (List.mem_append.mp h).elim (fun h => w3 r (List.mem_of_mem_take h)) (w2 r)⟩
    refine ix_L hps' ?_
    walk_at "s"
    exact q _ _ _ _ (by omega) (by omega) (ro.picks hl' hok')
  walk_at "s"
  refine fun v4 l4 u4 => ?_
  rw [List.length_map] at u4
  have nl : nm.length ≤ 8 := by rw [TL.len_tl]; exact (isName_open hnm).2.1
  have t5 : (Str.ofString "look ").length = 5 := by decide +kernel
  have t4 : (Str.ofString "set ").length = 4 := by decide +kernel
  have t3 : (Str.ofString " 5 ").length = 3 := by decide +kernel
  have t1 : (Str.ofString " ").length = 1 := by decide +kernel
  have a1 : (Str.ofString "look " ++ nm).length = 5 + nm.length := by rw [len_app, t5]
  have a2 : (Str.ofString "set " ++ nm).length = 4 + nm.length := by rw [len_app, t4]
  have a3 : (Str.ofString "set " ++ nm ++ Str.ofString " 5 ").length = 7 + nm.length := by rw [len_app, a2, t3]; omega
  have a4 : (Str.ofString "set " ++ nm ++ Str.ofString " 5 " ++ nm).length = 7 + nm.length + nm.length := by rw [len_app, a3]
  have a5 : (Str.ofString "look " ++ nm ++ Str.ofString " ").length = 6 + nm.length := by rw [len_app, a1, t1]; omega
  have n10 : 10 ∉ TL.tl nm := fun h => by have := (isName_open hnm).2.2 _ h; omega
  walk_at "s"
  obtain ⟨i4, rfl⟩ : ∃ i : Nat, v4 = (i : Int) := ⟨v4.toNat, by omega⟩
  obtain ⟨ah, ha1, ha2, ha3⟩ : ∃ ah : Str, ((0 < i4) → atI (pr.map PD.str) ((i4 : Int) - 1) = some (.str ah)) ∧ (i4 = 0 → ah = Str.ofString "") ∧ ah.length ≤ 300 + 40 * k := by
    by_cases h0 : 0 < i4
    · have hlt : i4 - 1 < pr.length := by omega
      refine ⟨pr[i4 - 1], fun _ => ?_, fun h => by omega, (ro.ro _ (List.getElem_mem hlt)).1⟩
      rw [show (i4 : Int) - 1 = ((i4 - 1 : Nat) : Int) by omega]
      exact atI_map (atI_nat' (List.getElem?_eq_getElem hlt))
    · exact ⟨Str.ofString "", fun h => absurd h h0, fun _ => rfl, by rw [show (Str.ofString "").length = 0 by decide +kernel]; omega⟩
  refine ife_join (.str ah) (fun c Q2 q2 => ?_) (fun c Q2 q2 => ?_) ?_
  · have : 0 < i4 := by have := of_decide_eq_true c; omega
    walk_at "s"
    refine ix_L (ha1 this) ?_
    exact q2
  · have : i4 = 0 := by have := of_decide_eq_false c; omega
    rw [ha2 this] at q2
    walk_at "s"
    exact q2
  have lsl := lstrip_len ah (Str.ofString " ")
  walk_at "s"
  refine fun v5 l5 u5 => ?_
  walk_at "s"
  obtain ⟨x, i5, hi5, hx, hxl, hx10⟩ : ∃ (x : Str) (i5 : Int), atI [PD.int 0, PD.int 0, PD.int 1, PD.int 2, PD.int 3, PD.int 4, PD.int 5] v5 = some (.int i5) ∧ atI [PD.str (Str.ofString "look " ++ nm), PD.str (Str.ofString "set " ++ nm ++ Str.ofString " 5 " ++ nm), PD.str (Str.ofString "look " ++ nm ++ Str.ofString " "), PD.str (Str.ofString "looked a"), PD.str (Str.ofString " pass"), PD.str (Str.ofString "begin a")] i5 = some (.str x) ∧ x.length ≤ 40 ∧ 10 ∉ TL.tl x := by
    have nn : ∀ {a b : Str}, 10 ∉ TL.tl a → 10 ∉ TL.tl b → 10 ∉ TL.tl (a ++ b) := fun h1 h2 => by rw [TL.tl_append]; exact fun h => (List.mem_append.mp h).elim h1 h2
    have q1 : 10 ∉ TL.tl (Str.ofString "look " ++ nm) := nn (by decide +kernel) n10
    have : v5 = 0 ∨ v5 = 1 ∨ v5 = 2 ∨ v5 = 3 ∨ v5 = 4 ∨ v5 = 5 ∨ v5 = 6 := by omega
    rcases this with rfl | rfl | rfl | rfl | rfl | rfl | rfl
    · exact ⟨_, 0, rfl, rfl, by omega, q1⟩
    · exact ⟨_, 0, rfl, rfl, by omega, q1⟩
    · exact ⟨_, 1, rfl, rfl, by omega, nn (nn (nn (by decide +kernel) n10) (by decide +kernel)) n10⟩
    · exact ⟨_, 2, rfl, rfl, by omega, nn q1 (by decide +kernel)⟩
    · exact ⟨_, 3, rfl, rfl, by decide +kernel, by decide +kernel⟩
    · exact ⟨_, 4, rfl, rfl, by decide +kernel, by decide +kernel⟩
    · exact ⟨_, 5, rfl, rfl, by decide +kernel, by decide +kernel⟩
  refine ix_L hi5 ?_
  walk_at "s"
  refine kkIx_of hx ?_
  obtain ⟨bl, hbl⟩ : ∃ bl : Nat, (ah.length : Int) - ((Txt.lstripChars ah (Str.ofString " ")).length : Int) = (bl : Int) := ⟨ah.length - (Txt.lstripChars ah (Str.ofString " ")).length, by omega⟩
  rw [hbl]
  have ml : (Txt.mul (Str.ofString " ") ((bl : Nat) : Int)).length = bl := by rw [TL.len_tl]; exact (congrArg List.length (tl_blanks bl)).trans List.length_replicate
  have m10 : 10 ∉ TL.tl (Txt.mul (Str.ofString " ") ((bl : Nat) : Int)) := by
    rw [show TL.tl (Txt.mul (Str.ofString " ") ((bl : Nat) : Int)) = List.replicate bl 32 from tl_blanks bl]
    exact fun h => by have := List.eq_of_mem_replicate h; omega
  walk_at "s"
  rw [cutD_take]
  refine szc (by simp; omega) ?_
  walk_at "s"
  rw [cutD_drop]
  refine szc (by simp; omega) ?_
  walk_at "s"
  rw [map3]
  refine q _ _ _ _ (by omega) (by omega) (ro.prog ⟨by rw [len_app]; omega, ?_⟩)
  rw [TL.tl_append]
  exact fun h => (List.mem_append.mp h).elim m10 hx10
end
end RS
set_option Elab.async false
set_option linter.all false
set_option maxRecDepth 100000
set_option maxHeartbeats 4000000
set_option synthInstance.maxHeartbeats 400000
set_option synthInstance.maxSize 20000

namespace RS
open PySem L2
/-! steps by their heads -/
local macro_rules | `(tactic| walk_at "fr") => `(tactic| first
  | assumption
  | exact SqL.of (by assumption)
  | exact SqT.of (by assumption)
  | exact Or.inl (by assumption)
  | exact Or.inr (by assumption)
  | (refine Gr.get (by assumption) ?_ (by walk_at "nin"); walk_at "fr")
  | (refine Gr.tup (by assumption) _ _ ?_; walk_at "fr")
  | (refine SqL.of ?_; walk_at "fr1")
  | (refine SqT.of ?_; walk_at "fr1")
  | (refine Gr.sqL (by assumption) ?_ (by walk_at "nin"); walk_at "fr")
  | (refine Gr.sqT (by assumption) ?_ (by walk_at "nin"); walk_at "fr")
  | (refine Gr.rep0 (by assumption) ?_; walk_at "fr")
  | (refine Gr.reps0 (by assumption) ?_; walk_at "fr"))
local macro_rules | `(tactic| walk_at "fr1") => `(tactic| first
  | assumption
  | (refine Gr.tup (by assumption) _ _ ?_; walk_at "fr1")
  | (refine Gr.get (by assumption) ?_ (by walk_at "nin"); walk_at "fr1"))
local macro_rules | `(tactic| walk_at "nin") => `(tactic| first
  | exact nin_nil
  | assumption
  | (refine nin_one ?_; walk_at "ne"))
local macro_rules | `(tactic| walk_at "ne") => `(tactic| first
  | assumption
  | exact Ne.symm (by assumption)
  | exact ne_new (by assumption) (by assumption)
  | exact Ne.symm (ne_new (by assumption) (by assumption)))
local macro_rules | `(tactic| walk_at "sz") => `(tactic| first
  | assumption
  | exact rfl
  | omega
  | (simp only [List.length_cons, List.length_nil, List.length_append, List.length_map, CDiv, CDivN, CMul]; omega)
  | decide
  | (constructor <;> first | exact rfl | omega | assumption | (simp only [List.length_cons, List.length_nil, List.length_append, List.length_map]; omega) | decide))
local macro_rules | `(tactic| walk_at "i1") => `(tactic| first
  | ((with_reducible refine' isi_L_list ?vh ?_); (case vh => walk_at "fr"))
  | ((with_reducible refine' isi_T_list ?vh ?_); (case vh => walk_at "fr"))
  | ((with_reducible refine' isi_L_tuple ?vh ?_); (case vh => walk_at "fr"))
  | ((with_reducible refine' isi_T_tuple ?vh ?_); (case vh => walk_at "fr"))
  | ((with_reducible refine' isi_L_str ?vh ?_); (case vh => walk_at "fr"))
  | ((with_reducible refine' isi_T_str ?vh ?_); (case vh => walk_at "fr"))
  | ((with_reducible refine' isi_L_int ?vh ?_); (case vh => walk_at "fr"))
  | ((with_reducible refine' isi_T_int ?vh ?_); (case vh => walk_at "fr"))
  | ((with_reducible refine' isi_L_bool ?vh ?_); (case vh => walk_at "fr"))
  | ((with_reducible refine' isi_T_bool ?vh ?_); (case vh => walk_at "fr")))
local macro_rules | `(tactic| walk_at "s") => `(tactic| repeat (first
  | with_reducible refine Stp.h ?_
  | ((with_reducible refine szc ?_ ?_); walk_at "sz")
  | ((with_reducible refine' w_kTyL ?vh ?_); (case vh => walk_at "fr"))
  | ((with_reducible refine' w_lenL ?vh ?_); (case vh => walk_at "fr"))
  | ((with_reducible refine' w_lenT ?vh ?_); (case vh => walk_at "fr"))))
local macro_rules | `(tactic| walk_at "gr") => `(tactic| first
  | exact Gr.refl _ _
  | assumption
  | exact Gr.wide (by assumption)
  | (refine Gr.trans ?_ (by assumption); walk_at "gr")
  | (refine Gr.trans ?_ (Gr.wide (by assumption)); walk_at "gr"))
local macro_rules | `(tactic| walk_at "s2") => `(tactic| (with_reducible refine Stp.h ?_; with_reducible refine Stp.h ?_))

section
variable {P : Program} {w : World} {K : PySem.W.Frag} {mg : Str → Option Value} {base : Heap}
theorem sheetX_of {z : Str} {p : List PD × List Int × List PD} (h : sheetFrom z = some p) : sheetX z = .ok p := by
  obtain ⟨sets, ps, prog⟩ := p
  unfold sheetFrom at h
  unfold sheetX
  simp only [] at h ⊢
  split at h
  · cases h
  rename_i r rs hrs
  try rw [hrs]
  try dsimp only
  split at h
  · cases h
  rename_i ps' hps
  try rw [hps]
  try dsimp only
  split at h
  · cases h
  rename_i l hl
  try rw [hl]
  try dsimp only
  split at h
  · rename_i hc
    rw [Bool.and_eq_true, decide_eq_true_eq, List.all_eq_true] at hc
    obtain ⟨nd, al⟩ := hc
    have h1 : againAt ((settingsIn (Txt.split z "\n")).map nameOf) = none := firstIx_none fun j hj => by
      rw [decide_eq_false_iff_not]
      intro hm
      rw [List.getD_eq_getElem?_getD, List.getElem?_eq_getElem hj, Option.getD_some] at hm
      obtain ⟨i, hi, hie⟩ := List.mem_iff_getElem.mp hm
      rw [List.length_take] at hi
      rw [List.getElem_take] at hie
      exact List.pairwise_iff_getElem.mp nd i j (by omega) hj (by omega) hie
    have h2 : strangeAt ((settingsIn (Txt.split z "\n")).map nameOf) l = none := firstIx_none fun j hj => by
      have := al (l.getD j (0, .non)) (by rw [List.getD_eq_getElem?_getD, List.getElem?_eq_getElem hj, Option.getD_some]; exact List.getElem_mem _)
      rw [this]; rfl
    rw [h1, h2]
    injection h with h
    rw [h]
  · cases h
/-- of a text of rows -/
theorem text_of {rows : List Str} (h0 : rows ≠ []) (h : ∀ r ∈ rows, 10 ∉ TL.tl r) : Txt.split (Txt.join "\n" rows) "\n" = rows :=
  TL.split_join (s := 10) (S := []) (by decide +kernel) (by decide +kernel) h0 h
theorem text_small {n : Nat} {ss ps pr : List Str} (ro : RowsOk n ss ps pr) (hn : n ≤ 2) : (Txt.join "\n" (ss ++ ps ++ pr)).length ≤ 1000000 ∧ (Txt.split (Txt.join "\n" (ss ++ ps ++ pr)) "\n").length ≤ 40 ∧ ((ss ++ ps ++ pr).map (·.length)).sum + (ss ++ ps ++ pr).length * (Str.ofString "\n").length ≤ 16777216 := by
  have l1 := ro.s1
  have l2 := ro.r1
  have l3 : ps.length ≤ 4 := Nat.le_trans ro.p1 (Nat.pow_le_pow_right (by decide) hn)
  have l0 := ro.s0
  have hl : (ss ++ ps ++ pr).length ≤ 26 := by simp only [List.length_append]; omega
  have hr : ∀ r ∈ ss ++ ps ++ pr, rowOk n r := fun r h => by
    rcases List.mem_append.mp h with h | h
    · rcases List.mem_append.mp h with h | h
      · exact (ro.so r h).1
      · exact ro.po r h
    · exact ro.ro r h
  have sm : ((ss ++ ps ++ pr).map (·.length)).sum ≤ (ss ++ ps ++ pr).length * 400 := sum_le fun r h => by have := (hr r h).1; omega
  have jl := join_len "\n" (ss ++ ps ++ pr)
  have h1 : (Str.ofString "\n").length = 1 := by decide +kernel
  rw [text_of (fun e => by simp only [List.append_eq_nil_iff] at e; rw [e.1.1] at l0; simp at l0) fun r h => (hr r h).2]
  rw [h1] at jl ⊢
  refine ⟨by omega, by omega, by omega⟩
theorem plain10 {l : List Nat} (h : Plain l) : 10 ∉ l := fun h10 => by have := h 10 h10; omega
theorem good_rows {sets : List PD} {ps : List Int} {prog : List PD} {l : List (Int × PD)} (wf : WfSh sets ps prog) (fl : Flat (sets.map nameOf) 0 prog l) (h2 : ∀ q ∈ l, q.1 ≤ 2) (hl : l.length ≤ 12) (h1 : 1 ≤ sets.length) (h6 : sets.length ≤ 6) (hp : ps.length ≤ 6) : RowsOk 0 (sets.map setRow) [weaveRow ps] (l.map rowText) := by
  refine ⟨by rw [List.length_map]; exact h1, by rw [List.length_map]; exact h6, by simp, by rw [List.length_map]; exact hl, fun r hr => ?_, fun r hr => ?_, fun r hr => ?_⟩
  · obtain ⟨d, hd, rfl⟩ := List.mem_map.mp hr
    refine ⟨⟨by have := setRow_len (wf.wset d hd); omega, plain10 (plain_set (wf.wset d hd))⟩, ?_⟩
    obtain ⟨n, v, rfl, _, hv⟩ := wf.wset d hd
    have h32 : ∀ x y : Str, 32 ∈ TL.tl (("setting " : Str) ++ x ++ y) := fun x y => by
      rw [TL.tl_append, TL.tl_append]
      exact List.mem_append_left _ (List.mem_append_left _ (by decide +kernel))
    rcases hv with rfl | hv
    · exact h32 _ _
    · rw [setRow_val hv]; exact h32 _ _
  · rw [List.mem_singleton.mp hr]
    refine ⟨?_, plain10 (plain_weave wf.wpick)⟩
    have := join_len " " (("weave" : Str) :: ps.map fun i => Str.ofString (toString i))
    rw [List.map_cons, List.sum_cons, List.map_map, List.length_cons, List.length_map, show (" " : Str).length = 1 by decide +kernel, show ("weave" : Str).length = 5 by decide +kernel] at this
    have h2 : (ps.map (Str.length ∘ fun i => Str.ofString (toString i))).sum ≤ ps.length * 4 := sum_le fun x hx => pick_len (wf.wpick x hx)
    have h3 : (ps.map ((fun x => x.length) ∘ fun i => Str.ofString (toString i))) = (ps.map (Str.length ∘ fun i => Str.ofString (toString i))) := rfl
    rw [h3] at this
    unfold weaveRow
    omega
  · obtain ⟨q, hq, rfl⟩ := List.mem_map.mp hr
    have hs := fl.steps q hq
    exact ⟨rowText_len (st := q.2) (d := q.1) hs.1 (nm_names wf) hs.2 (by have := h2 q hq; omega), plain10 (plain_row (st := q.2) (d := q.1) hs.1 (nm_names wf))⟩
theorem okD_sheet {z : Str} {p : List PD × List Int × List PD} (hz : z.length ≤ 1000000) (hm : (Txt.split z "\n").length ≤ 40) (h : sheetX z = .ok p) : okD 83 (sheetD z) := by
  obtain ⟨sets, ps, prog⟩ := p
  obtain ⟨h1, h2, h3, h4, _, _, h5⟩ := sheet_parts hm hz h
  unfold sheetD
  rw [h]
  refine okD_tup (m := 82) (by simp) (in2 (okD_lst (m := 81) (by omega) fun d hd => ?_) (in2 (okD_lst (m := 81) ?_ fun d hd => ?_) (in1 (okD_tup (m := 81) (by omega) h3))))
  · obtain ⟨s, v, rfl, hv⟩ := h1 d hd
    exact okD_tup (m := 80) (by simp) (in2 (okD_atom _ trivial) (in1 (okD_atom _ hv)))
  · rw [List.length_map]; omega
  · obtain ⟨i, _, rfl⟩ := List.mem_map.mp hd
    exact okD_atom _ trivial
theorem sheetX_empty : sheetX "" = .error 0 := by
  have h : (match sheetX "" with | .error k => k == 0 | .ok _ => false) = true := by decide +kernel
  cases hx : sheetX "" with
  | error k => rw [hx] at h; rw [eq_of_beq h]
  | ok p => rw [hx] at h; cases h
theorem ints_get {n i : Nat} {d : PD} (h : (intsD 0 n)[i]? = some d) : d = .int (i : Int) := by
  unfold intsD at h
  rw [List.getElem?_map, Option.map_eq_some_iff] at h
  obtain ⟨a, h1, rfl⟩ := h
  have := (List.getElem?_eq_some_iff.mp h1).2
  rw [List.getElem_range] at this
  rw [← this]; congr 1; omega
theorem map_app3 (a b c : List Str) : a.map PD.str ++ b.map PD.str ++ c.map PD.str = (a ++ b ++ c).map PD.str := by simp
def aLaw (ns : List Int) : ASp (BW Unit) := fun ds w Q _ => ds = [.ro (ns.map .int)] ∧ w = ⟨none, 0, ()⟩ ∧ ns.length ≤ 63 ∧ ∀ w', Q (.bl true) w'
theorem sc_law : FnScope ["_law_script", "_law_k", "_law_box_here", "_law_good_here", "_law_name", "_law_turn", "_law_rows_here", "_law_again", "_law_text", "_law_due", "_law_told"] ["_law_script"] (defScope s_law) := ⟨rfl, rfl, rfl, by decide +kernel, rfl, by decide +kernel, by decide +kernel⟩
theorem okd_law (T : TX K mg) {F : Addr} {f : FuncData} (FF : Fun K "law" "law" s_law F f) (ns : List Int) : FnOk P w K mg base CX0 90 F f ["_law_script"] (liftSp (boxM unitM) K 1 (aLaw ns)) := by
  refine FF.ok sc_law (fun vs H Q E h => lift_len h) (fun cdv A outer s H vs Q E hr h => ?_)
  obtain ⟨ds, w0, Zf, Zw, AQ, AX, hn, ⟨rfl, rfl, hns, q⟩, L⟩ := h
  refine ⟨_, (pss_cons (ps_for PassesOwn.never rfl (pi_range1 (by rfl) T.z_range (pa_cons (pe_callB (call_max2A rfl) (by rfl) T.z_max bt_max (pa_cons pe_int (pa_cons (pe_callB (call_min2A rfl) (by rfl) T.z_min bt_min (pa_cons (pe_callB (call_lenK (K := K) rfl) (by rfl) T.z_len bt_len (pa_cons (pv 0) pa_nil)) (pa_cons pe_int pa_nil))) pa_nil))) pa_nil)) (pg_name (i := 1) sc_law.nd rfl (Or.inl rfl))
    (pss_cons (ps_set (i := 2) sc_law.nd rfl (Or.inl rfl) (pe_call (okd_box (M0 := unitM) T) (hr.mono (by decide)) (by rfl) T.d_law_box.g T.d_law_box.F.kp T.d_law_box.b .nil pass0 (pa_cons (pv 0) (pa_cons (pv 1) pa_nil))))
  (pss_cons (ps_par (i := 3) (j := 4) rfl sc_law.nd rfl rfl (by decide) rfl rfl (pa_cons (pe_call (okd_law_good (M0 := unitM) T) (hr.mono (by decide)) (by rfl) T.d_law_good.g T.d_law_good.F.kp T.d_law_good.b .nil pass0 (pa_cons (pv 2) pa_nil)) (pa_cons (pe_ix (ix_anyK (K := K) rfl) (pe_call (okd_law_names (M0 := unitM) T) (hr.mono (by decide)) (by rfl) T.d_law_names.g T.d_law_names.F.kp T.d_law_names.b .nil pass0 (pa_cons (pv 2) (pa_cons pe_int pa_nil))) pe_int (fun _ _ => rfl)) pa_nil)) (by rfl))
  (pss_cons (ps_for PassesOwn.never rfl (pi_range1 (by rfl) T.z_range (pa_cons pe_int pa_nil)) (pg_name (i := 5) sc_law.nd rfl (Or.inl rfl))
    (pss_cons (ps_set (i := 6) sc_law.nd rfl (Or.inl rfl) (pv 3))
  (pss_cons (ps_for PassesOwn.never rfl (pi_range1 (by rfl) T.z_range (pa_cons (pe_op (op_addK (K := K) rfl) pe_int (pe_call (okd_take (M0 := unitM) T) (hr.mono (by decide)) (by rfl) T.d_law_take.g T.d_law_take.F.kp T.d_law_take.b .nil pass0 (pa_cons (pv 2) (pa_cons pe_int pa_nil)))) pa_nil)) (pg_name (i := 7) sc_law.nd rfl (Or.inl rfl))
    (pss_one (ps_set (i := 6) sc_law.nd rfl (Or.inl rfl) (pe_call (okd_law_with_fault (M0 := unitM) T) (hr.mono (by decide)) (by rfl) T.d_law_with_fault.g T.d_law_with_fault.F.kp T.d_law_with_fault.b .nil pass0 (pa_cons (pv 2) (pa_cons (pv 6) (pa_cons (pv 4) pa_nil)))))))
  (pss_cons (ps_set (i := 8) sc_law.nd rfl (Or.inl rfl) (pe_m1 PySem.F.slot_str_join PySem.F.type_str_join (mt_joinK (K := K) rfl) pe_str (pe_op (op_addK (K := K) rfl) (pe_op (op_addK (K := K) rfl) (pe_ix (ix_anyK (K := K) rfl) (pv 6) pe_int (fun _ _ => rfl)) (pe_ix (ix_anyK (K := K) rfl) (pv 6) pe_int (fun _ _ => rfl))) (pe_ix (ix_anyK (K := K) rfl) (pv 6) pe_int (fun _ _ => rfl)))))
  (pss_cons (ps_set (i := 9) sc_law.nd rfl (Or.inl rfl) (pe_call (okd_law_sheet (M := boxM unitM) T) (hr.mono (by decide)) (by rfl) T.d_law_sheet.g T.d_law_sheet.F.kp T.d_law_sheet.b .nil pass0 (pa_cons (pv 8) pa_nil)))
  (pss_one (ps_if (pt_val (pe_callB (call_isiD (K := K) rfl) (by rfl) T.z_isinstance bt_isinstance (pa_cons (pv 9) (pa_cons (pe_bltn (v := .ty "tuple") (by rfl) T.z_tuple bt_tuple rfl) pa_nil))))
    (pss_one (ps_if (pt_not (pt_val (pe_call (okd_same (M := boxM unitM) T 83) (hr.mono (by decide)) (by rfl) T.d_law_same.g T.d_law_same.F.kp T.d_law_same.b .nil pass0 (pa_cons (pe_call (okd_sheet_from (M := boxM unitM) T) (hr.mono (by decide)) (by rfl) T.d_sheet_from.g T.d_sheet_from.F.kp T.d_sheet_from.b .nil pass0 (pa_cons (pv 8) pa_nil)) (pa_cons (pv 9) pa_nil)))))
    (pss_one (ps_ret pe_bl))
    pss_nil))
    (pss_one (ps_for PassesOwn.never rfl (pi_anyK (K := K) rfl (pe_tup (pa_cons (pe_glob (v := .ref T.d_sheet_from.a) (by rfl) T.d_sheet_from.g rfl) (pa_cons (pe_glob (v := .ref T.d_answers.a) (by rfl) T.d_answers.g rfl) (pa_cons (pe_glob (v := .ref T.d_turns_text.a) (by rfl) T.d_turns_text.g rfl) pa_nil))))) (pg_name (i := 10) sc_law.nd rfl (Or.inl rfl))
    (pss_one (ps_if (pt_not (pt_val (pe_call (okd_same (M := boxM unitM) T 83) (hr.mono (by decide)) (by rfl) T.d_law_same.g T.d_law_same.F.kp T.d_law_same.b .nil pass0 (pa_cons (pe_call (okd_law_refused (M := boxM unitM) T) (hr.mono (by decide)) (by rfl) T.d_law_refused.g T.d_law_refused.F.kp T.d_law_refused.b .nil pass0 (pa_cons (pv 10) (pa_cons (pv 8) pa_nil))) (pa_cons (pv 9) pa_nil)))))
    (pss_one (ps_ret pe_bl))
    pss_nil)))))))))))
  (pss_cons (ps_set (i := 8) sc_law.nd rfl (Or.inl rfl) (pe_m1 PySem.F.slot_str_join PySem.F.type_str_join (mt_joinK (K := K) rfl) pe_str (pe_op (op_addK (K := K) rfl) (pe_op (op_addK (K := K) rfl) (pe_ix (ix_anyK (K := K) rfl) (pv 3) pe_int (fun _ _ => rfl)) (pe_ix (ix_anyK (K := K) rfl) (pv 3) pe_int (fun _ _ => rfl))) (pe_ix (ix_anyK (K := K) rfl) (pv 3) pe_int (fun _ _ => rfl)))))
  (pss_one (ps_if (pt_not (pt_val (pe_call (okd_same (M := boxM unitM) T 83) (hr.mono (by decide)) (by rfl) T.d_law_same.g T.d_law_same.F.kp T.d_law_same.b .nil pass0 (pa_cons (pe_call (okd_sheet_from (M := boxM unitM) T) (hr.mono (by decide)) (by rfl) T.d_sheet_from.g T.d_sheet_from.F.kp T.d_sheet_from.b .nil pass0 (pa_cons (pv 8) pa_nil)) (pa_cons (pe_call (okd_law_sheet (M := boxM unitM) T) (hr.mono (by decide)) (by rfl) T.d_law_sheet.g T.d_law_sheet.F.kp T.d_law_sheet.b .nil pass0 (pa_cons (pv 8) pa_nil)) pa_nil)))))
    (pss_one (ps_ret pe_bl))
    pss_nil)))))))
  (pss_one (ps_ret (pe_call (okd_same (M := boxM unitM) T 83) (hr.mono (by decide)) (by rfl) T.d_law_same.g T.d_law_same.F.kp T.d_law_same.b .nil pass0 (pa_cons (pe_call (okd_law_refused (M := boxM unitM) T) (hr.mono (by decide)) (by rfl) T.d_law_refused.g T.d_law_refused.F.kp T.d_law_refused.b .nil pass0 (pa_cons (pe_glob (v := .ref T.d_sheet_from.a) (by rfl) T.d_sheet_from.g rfl) (pa_cons pe_str pa_nil))) (pa_cons pe_int pa_nil)))))), ?_⟩
  refine L.go ?_
  clear L hr
  refine at_startE [some (.va (.ro (ns.map .int))), none, none, none, none, none, none, none, none, none, none] rfl ?_
  walk_at "s"
  have hlen : (ns.map PD.int).length ≤ 63 := by rw [List.length_map]; exact hns
  have hcnt : ∀ {g : Int}, g ≤ 63 → (if (if 3 < g then 3 else g) > 1 then (if 3 < g then 3 else g) else 1).toNat ≤ 3 := fun h => by split <;> split <;> omega
  have hg := hcnt (g := ((ns.map PD.int).length : Int)) (by omega)
  generalize (if (if 3 < ((ns.map PD.int).length : Int) then 3 else ((ns.map PD.int).length : Int)) > 1 then (if 3 < ((ns.map PD.int).length : Int) then 3 else ((ns.map PD.int).length : Int)) else 1).toNat = g at *
  refine for_D (fun i e w' => ∃ (s1 s2 s3 s4 s5 s6 s7 s8 s9 s10 : Option PD), e = [some (.va (.ro (ns.map .int))), s1.map .va, s2.map .va, s3.map .va, s4.map .va, s5.map .va, s6.map .va, s7.map .va, s8.map .va, s9.map .va, s10.map .va]) ?_ ?_ ?_
  · exact ⟨none, none, none, none, none, none, none, none, none, none, rfl⟩
  · rintro i e w' d ⟨s1, s2, s3, s4, s5, s6, s7, s8, s9, s10, rfl⟩ hi hd
    have hi3 : i < 3 := by simp [intsD] at hi; omega
    have hdi : d = .int (i : Int) := ints_get hd
    subst hdi
    walk_at "s"
    refine ⟨ns, i, rfl, by omega, fun b => ?_⟩
    walk_at "s"
    refine fun sets ps prog l n' hn1 hn2 wf fl hl2 hl12 hs1 hs6 hp6 => ?_
    have ro := good_rows wf fl hl2 hl12 hs1 hs6 hp6
    walk_at "s"
    refine names_use (many := 1) (by omega) (by omega) fun nms n2 hn3 hn4 hnl hni _ => ?_
    obtain ⟨nm, rfl⟩ : ∃ nm, nms = [nm] := by
      match nms, hnl with
      | [nm], _ => exact ⟨nm, rfl⟩
    have hin : isName nm = true := hni _ List.mem_cons_self
    walk_at "s"
    refine ix_L (atI_nat' (i := 0) rfl) ?_
    walk_at "s"
    unfold goodD
    walk_at "s"
    refine for_D (fun j e w2 => ∃ (s5 s6 s7 s8 s9 s10 : Option PD) (nn : Int), e = [some (.va (.ro (ns.map .int))), some (.va (.int (i : Int))), some (.va (.ref b)), some (.va (.tup [.lst ((sets.map setRow).map .str), .lst ([weaveRow ps].map .str), .lst ((l.map rowText).map .str)])), some (.va (.str nm)), s5.map .va, s6.map .va, s7.map .va, s8.map .va, s9.map .va, s10.map .va] ∧ w2 = ⟨some b, nn, w'.x⟩ ∧ n2 ≤ nn ∧ nn ≤ n2 + 30 * j) ?_ ?_ ?_
    · exact ⟨s5, s6, s7, s8, s9, s10, n2, rfl, rfl, by omega, by omega⟩
    · rintro j e w2 d ⟨s5, s6, s7, s8, s9, s10, nn, rfl, rfl, g1, g2⟩ hj hd
      have hj6 : j < 6 := by simpa [intsD] using hj
      obtain rfl := ints_get hd
      walk_at "s"
      refine fun v1 l1 u1 => ?_
      walk_at "s"
      have hlt : (intsD 0 (1 + v1).toNat).length ≤ 2 := by simp [intsD]; omega
      refine for_D (fun m e w3 => ∃ (ss pp pr : List Str) (s7 : Option PD) (n3 : Int), e = [some (.va (.ro (ns.map .int))), some (.va (.int (i : Int))), some (.va (.ref b)), some (.va (.tup [.lst ((sets.map setRow).map .str), .lst ([weaveRow ps].map .str), .lst ((l.map rowText).map .str)])), some (.va (.str nm)), some (.va (.int (j : Int))), some (.va (.tup [.lst (ss.map .str), .lst (pp.map .str), .lst (pr.map .str)])), s7.map .va, s8.map .va, s9.map .va, s10.map .va] ∧ w3 = ⟨some b, n3, w'.x⟩ ∧ nn ≤ n3 ∧ n3 ≤ nn + 1 + 10 * m ∧ RowsOk m ss pp pr) ?_ ?_ ?_
      · exact ⟨_, _, _, s7, nn + 1, rfl, rfl, by omega, by omega, ro⟩
      · rintro m e w3 d ⟨ss, pp, pr, s7, n3, rfl, rfl, g3, g4, ro3⟩ hm hd
        walk_at "s"
        refine ⟨b, m, ss, pp, pr, nm, rfl, rfl, by dsimp only; omega, by omega, ro3, hin, fun ss' pp' pr' n4 h4 h5 ro4 => ?_⟩
        dsimp only at h4 h5
        unfold rowsD
        walk_at "s"
        exact ⟨ss', pp', pr', some d, n4, rfl, rfl, by omega, by omega, ro4⟩
      rintro e w3 ⟨ss, pp, pr, s7, n3, rfl, rfl, g3, g4, ro3⟩
      generalize (intsD 0 (1 + v1).toNat).length = mm at *
      obtain ⟨z1, z2, z3⟩ := text_small ro3 hlt
      have q1 := ro3.s1
      have q2 := ro3.r1
      have q3 : pp.length ≤ 4 := Nat.le_trans ro3.p1 (Nat.pow_le_pow_right (by decide) hlt)
      walk_at "s"
      rw [map_app3]
      walk_at "s"
      generalize Txt.join (Str.ofString "\n") (ss ++ pp ++ pr) = z at *
      walk_at "s"
      refine ⟨z, rfl, z1, z2, ?_⟩
      cases hx : sheetX z with
      | ok p =>
        have od := okD_sheet z1 z2 hx
        obtain ⟨sets', ps', prog'⟩ := p
        have hsd : sheetD z = .tup [.lst sets', .lst (ps'.map .int), .tup prog'] := by unfold sheetD; rw [hx]
        rw [hsd]
        walk_at "s"
        refine ⟨z, _, rfl, z1, z2, hx, ?_⟩
        walk_at "s"
        refine ⟨sheetD z, by rw [← hsd], od, ?_⟩
        walk_at "s"
        exact ⟨some (.int (j : Int)), some (.tup [.lst (ss.map .str), .lst (pp.map .str), .lst (pr.map .str)]), s7, some (.str z), some (.tup [.lst sets', .lst (ps'.map .int), .tup prog']), s10, _, rfl, rfl, by omega, by omega⟩
      | error k =>
        have hsd : sheetD z = .int (k : Int) := by unfold sheetD; rw [hx]
        rw [hsd]
        walk_at "s"
        refine it_T ?_
        walk_at "s"
        refine for_D (fun m e w3 => w3 = ⟨some b, n3, w'.x⟩ ∧ ∃ (s10 : Option PD), e = [some (.va (.ro (ns.map .int))), some (.va (.int (i : Int))), some (.va (.ref b)), some (.va (.tup [.lst ((sets.map setRow).map .str), .lst ([weaveRow ps].map .str), .lst ((l.map rowText).map .str)])), some (.va (.str nm)), some (.va (.int (j : Int))), some (.va (.tup [.lst (ss.map .str), .lst (pp.map .str), .lst (pr.map .str)])), s7.map .va, some (.va (.str z)), some (.va (.int (k : Int))), s10.map .va]) ?_ ?_ ?_
        · exact ⟨rfl, s10, rfl⟩
        · rintro m e w3 d ⟨rfl, s10, rfl⟩ hm hd
          obtain ⟨f, hf, rfl⟩ : ∃ f, doors T f ∧ d = .ref f := by
            have := List.mem_of_getElem? hd
            simp only [List.mem_cons, List.not_mem_nil, or_false] at this
            rcases this with rfl | rfl | rfl
            · exact ⟨_, .inl rfl, rfl⟩
            · exact ⟨_, .inr (.inl rfl), rfl⟩
            · exact ⟨_, .inr (.inr rfl), rfl⟩
          walk_at "s"
          refine ⟨f, z, k, rfl, hf, z1, z2, hx, ?_⟩
          walk_at "s"
          refine ⟨.int (k : Int), rfl, okD_atom _ trivial, ?_⟩
          walk_at "s"
          exact ⟨rfl, some (.ref f), rfl⟩
        rintro e w3 ⟨rfl, s10, rfl⟩
        exact ⟨some (.int (j : Int)), some (.tup [.lst (ss.map .str), .lst (pp.map .str), .lst (pr.map .str)]), s7, some (.str z), some (.int (k : Int)), s10, _, rfl, rfl, by omega, by omega⟩
    rintro e w2 ⟨s5, s6, s7, s8, s9, s10, nn, rfl, rfl, g1, g2⟩
    obtain ⟨z1, z2, z3⟩ := text_small ro (by omega)
    have hx : sheetX (Txt.join (Str.ofString "\n") (sets.map setRow ++ [weaveRow ps] ++ l.map rowText)) = .ok (sets, ps, prog) := sheetX_of (sheet_reads wf fl fun q hq => by have := hl2 q hq; omega)
    walk_at "s"
    rw [map_app3]
    walk_at "s"
    generalize Txt.join (Str.ofString "\n") (sets.map setRow ++ [weaveRow ps] ++ l.map rowText) = z at *
    refine ⟨z, _, rfl, z1, z2, hx, ?_⟩
    walk_at "s"
    refine ⟨z, rfl, z1, z2, ?_⟩
    walk_at "s"
    refine ⟨sheetD z, rfl, okD_sheet z1 z2 hx, ?_⟩
    walk_at "s"
    exact ⟨some (.int (i : Int)), some (.ref b), some _, some (.str nm), s5, s6, s7, some (.str z), s9, s10, rfl⟩
  rintro e w' ⟨s1, s2, s3, s4, s5, s6, s7, s8, s9, s10, rfl⟩
  walk_at "s"
  refine ⟨_, _, 0, rfl, .inl rfl, by decide +kernel, by decide +kernel, sheetX_empty, ?_⟩
  walk_at "s"
  refine ⟨.int 0, rfl, okD_atom _ trivial, ?_⟩
  exact q _
end
end RS
set_option Elab.async false
set_option linter.all false
set_option maxRecDepth 100000
set_option maxHeartbeats 4000000
set_option synthInstance.maxHeartbeats 400000
set_option synthInstance.maxSize 20000

namespace RS
open PySem L2
/-! steps by their heads -/
local macro_rules | `(tactic| walk_at "fr") => `(tactic| first
  | assumption
  | exact SqL.of (by assumption)
  | exact SqT.of (by assumption)
  | exact Or.inl (by assumption)
  | exact Or.inr (by assumption)
  | (refine Gr.get (by assumption) ?_ (by walk_at "nin"); walk_at "fr")
  | (refine Gr.tup (by assumption) _ _ ?_; walk_at "fr")
  | (refine SqL.of ?_; walk_at "fr1")
  | (refine SqT.of ?_; walk_at "fr1")
  | (refine Gr.sqL (by assumption) ?_ (by walk_at "nin"); walk_at "fr")
  | (refine Gr.sqT (by assumption) ?_ (by walk_at "nin"); walk_at "fr")
  | (refine Gr.rep0 (by assumption) ?_; walk_at "fr")
  | (refine Gr.reps0 (by assumption) ?_; walk_at "fr"))
local macro_rules | `(tactic| walk_at "fr1") => `(tactic| first
  | assumption
  | (refine Gr.tup (by assumption) _ _ ?_; walk_at "fr1")
  | (refine Gr.get (by assumption) ?_ (by walk_at "nin"); walk_at "fr1"))
local macro_rules | `(tactic| walk_at "nin") => `(tactic| first
  | exact nin_nil
  | assumption
  | (refine nin_one ?_; walk_at "ne"))
local macro_rules | `(tactic| walk_at "ne") => `(tactic| first
  | assumption
  | exact Ne.symm (by assumption)
  | exact ne_new (by assumption) (by assumption)
  | exact Ne.symm (ne_new (by assumption) (by assumption)))
local macro_rules | `(tactic| walk_at "sz") => `(tactic| first
  | assumption
  | exact rfl
  | omega
  | (simp only [List.length_cons, List.length_nil, List.length_append, List.length_map, CDiv, CDivN, CMul]; omega)
  | decide
  | (constructor <;> first | exact rfl | omega | assumption | (simp only [List.length_cons, List.length_nil, List.length_append, List.length_map]; omega) | decide))
local macro_rules | `(tactic| walk_at "i1") => `(tactic| first
  | ((with_reducible refine' isi_L_list ?vh ?_); (case vh => walk_at "fr"))
  | ((with_reducible refine' isi_T_list ?vh ?_); (case vh => walk_at "fr"))
  | ((with_reducible refine' isi_L_tuple ?vh ?_); (case vh => walk_at "fr"))
  | ((with_reducible refine' isi_T_tuple ?vh ?_); (case vh => walk_at "fr"))
  | ((with_reducible refine' isi_L_str ?vh ?_); (case vh => walk_at "fr"))
  | ((with_reducible refine' isi_T_str ?vh ?_); (case vh => walk_at "fr"))
  | ((with_reducible refine' isi_L_int ?vh ?_); (case vh => walk_at "fr"))
  | ((with_reducible refine' isi_T_int ?vh ?_); (case vh => walk_at "fr"))
  | ((with_reducible refine' isi_L_bool ?vh ?_); (case vh => walk_at "fr"))
  | ((with_reducible refine' isi_T_bool ?vh ?_); (case vh => walk_at "fr")))
local macro_rules | `(tactic| walk_at "s") => `(tactic| repeat (first
  | with_reducible refine Stp.h ?_
  | ((with_reducible refine szc ?_ ?_); walk_at "sz")
  | ((with_reducible refine' w_kTyL ?vh ?_); (case vh => walk_at "fr"))
  | ((with_reducible refine' w_lenL ?vh ?_); (case vh => walk_at "fr"))
  | ((with_reducible refine' w_lenT ?vh ?_); (case vh => walk_at "fr"))))
local macro_rules | `(tactic| walk_at "gr") => `(tactic| first
  | exact Gr.refl _ _
  | assumption
  | exact Gr.wide (by assumption)
  | (refine Gr.trans ?_ (by assumption); walk_at "gr")
  | (refine Gr.trans ?_ (Gr.wide (by assumption)); walk_at "gr"))
local macro_rules | `(tactic| walk_at "s2") => `(tactic| (with_reducible refine Stp.h ?_; with_reducible refine Stp.h ?_))

section
variable {P : Program} {w : World} {K : PySem.W.Frag} {mg : Str → Option Value} {base : Heap}
def sp_law (K : PySem.W.Frag) : Sp := fun vs H Q _ => ∃ (a : Addr) (ns : List Int), vs = [.ref a] ∧ SqL K H a (ns.map V.int) ∧ ns.length ≤ 63 ∧ ∀ H', Q (.bl true) H'
theorem lifted_law {H : Hp} {Q : VK} {E : XK} {a : Addr} {ns : List Int} (h : SqL K H a (ns.map V.int)) (q : ∀ H', Q (.bl true) H') :
    Lifted (boxM unitM) K [.ref a] H Q E [.ro (ns.map .int)] (⟨none, 0, ()⟩ : BW Unit) (fun _ => False) (fun _ => False) (fun d _ => d = .bl true) noX where
  reps := rps_cons (mk_ro (RoAt.of h fun z => z.elim id id) (ints_rps ns)) rps_nil
  m := ⟨fun _ => False, (fun a z => z), (fun a => ⟨False.elim, fun z => z.elim id fun z => nomatch z⟩), fun a ha => nomatch ha⟩
  fw := fun a z => z.elim
  fl := fun a z => z.elim
  k := fun d w' v H' Zw' _ _ _ r e => by subst e; rw [rp_bl r]; exact q H'
  x := fun C dx d v w' H' Zw' _ _ _ _ _ z => z.elim
theorem ok_law (T : TX K mg) {F : Addr} {f : FuncData} (FF : Fun K "law" "law" s_law F f) : FnOk P w K mg base CX0 90 F f ["_law_script"] (sp_law K) := by
  refine ⟨fun vs H Q E h => ?_, fun A outer s H args us vs Q E hr he hb hv h => ?_⟩
  · obtain ⟨_, _, rfl, _⟩ := h; rfl
  obtain ⟨a, ns, rfl, hL, hn, q⟩ := h
  exact (okd_law T FF ns).run A outer s H args us _ Q E hr he hb hv ⟨_, ⟨none, 0, ()⟩, _, _, _, _, rfl, ⟨rfl, rfl, hn, fun w' => rfl⟩, lifted_law hL q⟩
end
theorem all_hd {P : Program} {w : World} {K : PySem.W.Frag} {h : Heap} {mg : Str → Option Value} {fa : Addr} (X : K.In h) (G : h.Ns mainGlobals mg) (hfa : mg "law" = some (.ref fa)) (c : hSays hd_fa hd_fn hd_ex K) :
    ∃ fd : FuncData, (∀ (s : Shared) (v : Value), BindsTo s fd ⟨[v], []⟩ [("_law_script", v)]) ∧ ∀ base : Heap, K.In base → base.Ns mainGlobals mg → FnOk P w K mg base CX0 90 fa fd ["_law_script"] (sp_law K) := by
  have e := hfa.symm.trans (He.glo_ok X G (c.fact 84))
  cases e
  obtain ⟨t_FIGURES, k_FIGURES⟩ := He.str_ok X G (c.fact 20 (f := .str "FIGURES" "0123456789"))
  obtain ⟨t_INSET, k_INSET⟩ := He.str_ok X G (c.fact 21 (f := .str "INSET" "  "))
  obtain ⟨t_LETTERS, k_LETTERS⟩ := He.str_ok X G (c.fact 22 (f := .str "LETTERS" "abcdefghijklmnopqrstuvwxyz"))
  obtain ⟨t_MOST_FIGURES_sheet, k_MOST_FIGURES_sheet⟩ := He.int_ok X G (c.fact 23 (f := .int "MOST_FIGURES_sheet" 4))
  obtain ⟨t_MOST_FIGURES_texts, k_MOST_FIGURES_texts⟩ := He.int_ok X G (c.fact 24 (f := .int "MOST_FIGURES_texts" 30))
  obtain ⟨t_MOST_LETTERS, k_MOST_LETTERS⟩ := He.int_ok X G (c.fact 25 (f := .int "MOST_LETTERS" 8))
  obtain ⟨t_MOST_SIGNS, k_MOST_SIGNS⟩ := He.int_ok X G (c.fact 26 (f := .int "MOST_SIGNS" 40))
  obtain ⟨t_QUOTE, k_QUOTE⟩ := He.str_ok X G (c.fact 27 (f := .str "QUOTE" "'"))
  obtain ⟨t_SETTING, k_SETTING⟩ := He.str_ok X G (c.fact 28 (f := .str "SETTING" "setting"))
  obtain ⟨t_STROKE, k_STROKE⟩ := He.str_ok X G (c.fact 29 (f := .str "STROKE" "\\"))
  obtain ⟨t_TASK, k_TASK⟩ := He.str_ok X G (c.fact 30 (f := .str "TASK" "task"))
  obtain ⟨t_WEAVE, k_WEAVE⟩ := He.str_ok X G (c.fact 31 (f := .str "WEAVE" "weave"))
  obtain ⟨fd_BadRow___init__, F_BadRow___init__⟩ : ∃ fd, Fun K "__init__" "BadRow.__init__" s_BadRow___init__ (He.ma K (He.ga K "BadRow") "__init__") fd := c.fun_ 0 (d := hd_d_BadRow___init__)
  obtain ⟨fd_is_name, F_is_name⟩ : ∃ fd, Fun K "is_name" "is_name" s_is_name (He.ga K "is_name") fd := c.fun_ 1 (d := hd_d_is_name)
  obtain ⟨fd_is_number, F_is_number⟩ : ∃ fd, Fun K "is_number" "is_number" s_is_number (He.ga K "is_number") fd := c.fun_ 2 (d := hd_d_is_number)
  obtain ⟨fd_is_value, F_is_value⟩ : ∃ fd, Fun K "is_value" "is_value" s_is_value (He.ga K "is_value") fd := c.fun_ 3 (d := hd_d_is_value)
  obtain ⟨fd_number_in, F_number_in⟩ : ∃ fd, Fun K "number_in" "number_in" s_number_in (He.ga K "number_in") fd := c.fun_ 4 (d := hd_d_number_in)
  obtain ⟨fd_bare_in, F_bare_in⟩ : ∃ fd, Fun K "bare_in" "bare_in" s_bare_in (He.ga K "bare_in") fd := c.fun_ 5 (d := hd_d_bare_in)
  obtain ⟨fd_text_in, F_text_in⟩ : ∃ fd, Fun K "text_in" "text_in" s_text_in (He.ga K "text_in") fd := c.fun_ 6 (d := hd_d_text_in)
  obtain ⟨fd_value_in, F_value_in⟩ : ∃ fd, Fun K "value_in" "value_in" s_value_in (He.ga K "value_in_texts") fd := c.fun_ 7 (d := hd_d_value_in)
  obtain ⟨fd_set_in, F_set_in⟩ : ∃ fd, Fun K "set_in" "set_in" s_set_in (He.ga K "set_in") fd := c.fun_ 8 (d := hd_d_set_in)
  obtain ⟨fd_step_in, F_step_in⟩ : ∃ fd, Fun K "step_in" "step_in" s_step_in (He.ga K "step_in") fd := c.fun_ 9 (d := hd_d_step_in)
  obtain ⟨fd_rows_read, F_rows_read⟩ : ∃ fd, Fun K "rows_read" "rows_read" s_rows_read (He.ga K "rows_read") fd := c.fun_ 10 (d := hd_d_rows_read)
  obtain ⟨fd_program_at, F_program_at⟩ : ∃ fd, Fun K "program_at" "program_at" s_program_at (He.ga K "program_at") fd := c.fun_ 11 (d := hd_d_program_at)
  obtain ⟨fd_setting_in, F_setting_in⟩ : ∃ fd, Fun K "setting_in" "setting_in" s_setting_in (He.ga K "setting_in") fd := c.fun_ 12 (d := hd_d_setting_in)
  obtain ⟨fd_pick_in, F_pick_in⟩ : ∃ fd, Fun K "pick_in" "pick_in" s_pick_in (He.ga K "pick_in") fd := c.fun_ 13 (d := hd_d_pick_in)
  obtain ⟨fd_picks_in, F_picks_in⟩ : ∃ fd, Fun K "picks_in" "picks_in" s_picks_in (He.ga K "picks_in") fd := c.fun_ 14 (d := hd_d_picks_in)
  obtain ⟨fd_settings_in, F_settings_in⟩ : ∃ fd, Fun K "settings_in" "settings_in" s_settings_in (He.ga K "settings_in") fd := c.fun_ 15 (d := hd_d_settings_in)
  obtain ⟨fd_look_settings, F_look_settings⟩ : ∃ fd, Fun K "look_settings" "look_settings" s_look_settings (He.ga K "look_settings") fd := c.fun_ 16 (d := hd_d_look_settings)
  obtain ⟨fd_look_names, F_look_names⟩ : ∃ fd, Fun K "look_names" "look_names" s_look_names (He.ga K "look_names") fd := c.fun_ 17 (d := hd_d_look_names)
  obtain ⟨fd_sheet_from, F_sheet_from⟩ : ∃ fd, Fun K "sheet_from" "sheet_from" s_sheet_from (He.ga K "sheet_from") fd := c.fun_ 18 (d := hd_d_sheet_from)
  obtain ⟨fd_sheet_woven, F_sheet_woven⟩ : ∃ fd, Fun K "sheet_woven" "sheet_woven" s_sheet_woven (He.ga K "sheet_woven") fd := c.fun_ 19 (d := hd_d_sheet_woven)
  obtain ⟨fd_answers, F_answers⟩ : ∃ fd, Fun K "answers" "answers" s_answers (He.ga K "answers") fd := c.fun_ 20 (d := hd_d_answers)
  obtain ⟨fd_turns_text, F_turns_text⟩ : ∃ fd, Fun K "turns_text" "turns_text" s_turns_text (He.ga K "turns_text") fd := c.fun_ 21 (d := hd_d_turns_text)
  obtain ⟨fd_law_refused, F_law_refused⟩ : ∃ fd, Fun K "_law_refused" "_law_refused" s_law_refused (He.ga K "_law_refused") fd := c.fun_ 22 (d := hd_d_law_refused)
  obtain ⟨fd_law_cell_at, F_law_cell_at⟩ : ∃ fd, Fun K "_law_cell_at" "_law_cell_at" s_law_cell_at (He.ga K "_law_cell_at") fd := c.fun_ 23 (d := hd_d_law_cell_at)
  obtain ⟨fd_law_box, F_law_box⟩ : ∃ fd, Fun K "_law_box" "_law_box" s_law_box (He.ga K "_law_box") fd := c.fun_ 24 (d := hd_d_law_box)
  obtain ⟨fd_law_take, F_law_take⟩ : ∃ fd, Fun K "_law_take" "_law_take" s_law_take (He.ga K "_law_take") fd := c.fun_ 25 (d := hd_d_law_take)
  obtain ⟨fd_law_names, F_law_names⟩ : ∃ fd, Fun K "_law_names" "_law_names" s_law_names (He.ga K "_law_names") fd := c.fun_ 26 (d := hd_d_law_names)
  obtain ⟨fd_law_value, F_law_value⟩ : ∃ fd, Fun K "_law_value" "_law_value" s_law_value (He.ga K "_law_value") fd := c.fun_ 27 (d := hd_d_law_value)
  obtain ⟨fd_law_program, F_law_program⟩ : ∃ fd, Fun K "_law_program" "_law_program" s_law_program (He.ga K "_law_program") fd := c.fun_ 28 (d := hd_d_law_program)
  obtain ⟨fd_law_written, F_law_written⟩ : ∃ fd, Fun K "_law_written" "_law_written" s_law_written (He.ga K "_law_written") fd := c.fun_ 29 (d := hd_d_law_written)
  obtain ⟨fd_law_rows, F_law_rows⟩ : ∃ fd, Fun K "_law_rows" "_law_rows" s_law_rows (He.ga K "_law_rows") fd := c.fun_ 30 (d := hd_d_law_rows)
  obtain ⟨fd_law_same, F_law_same⟩ : ∃ fd, Fun K "_law_same" "_law_same" s_law_same (He.ga K "_law_same") fd := c.fun_ 31 (d := hd_d_law_same)
  obtain ⟨fd_law_cut, F_law_cut⟩ : ∃ fd, Fun K "_law_cut" "_law_cut" s_law_cut (He.ga K "_law_cut") fd := c.fun_ 32 (d := hd_d_law_cut)
  obtain ⟨fd_law_is_name, F_law_is_name⟩ : ∃ fd, Fun K "_law_is_name" "_law_is_name" s_law_is_name (He.ga K "_law_is_name") fd := c.fun_ 33 (d := hd_d_law_is_name)
  obtain ⟨fd_law_number_at, F_law_number_at⟩ : ∃ fd, Fun K "_law_number_at" "_law_number_at" s_law_number_at (He.ga K "_law_number_at") fd := c.fun_ 34 (d := hd_d_law_number_at)
  obtain ⟨fd_law_value_at, F_law_value_at⟩ : ∃ fd, Fun K "_law_value_at" "_law_value_at" s_law_value_at (He.ga K "_law_value_at") fd := c.fun_ 35 (d := hd_d_law_value_at)
  obtain ⟨fd_law_step, F_law_step⟩ : ∃ fd, Fun K "_law_step" "_law_step" s_law_step (He.ga K "_law_step") fd := c.fun_ 36 (d := hd_d_law_step)
  obtain ⟨fd_law_read, F_law_read⟩ : ∃ fd, Fun K "_law_read" "_law_read" s_law_read (He.ga K "_law_read") fd := c.fun_ 37 (d := hd_d_law_read)
  obtain ⟨fd_law_built, F_law_built⟩ : ∃ fd, Fun K "_law_built" "_law_built" s_law_built (He.ga K "_law_built") fd := c.fun_ 38 (d := hd_d_law_built)
  obtain ⟨fd_law_setting, F_law_setting⟩ : ∃ fd, Fun K "_law_setting" "_law_setting" s_law_setting (He.ga K "_law_setting") fd := c.fun_ 39 (d := hd_d_law_setting)
  obtain ⟨fd_law_picks, F_law_picks⟩ : ∃ fd, Fun K "_law_picks" "_law_picks" s_law_picks (He.ga K "_law_picks") fd := c.fun_ 40 (d := hd_d_law_picks)
  obtain ⟨fd_law_sheet, F_law_sheet⟩ : ∃ fd, Fun K "_law_sheet" "_law_sheet" s_law_sheet (He.ga K "_law_sheet") fd := c.fun_ 41 (d := hd_d_law_sheet)
  obtain ⟨fd_law_good, F_law_good⟩ : ∃ fd, Fun K "_law_good" "_law_good" s_law_good (He.ga K "_law_good") fd := c.fun_ 42 (d := hd_d_law_good)
  obtain ⟨fd_law_with_fault, F_law_with_fault⟩ : ∃ fd, Fun K "_law_with_fault" "_law_with_fault" s_law_with_fault (He.ga K "_law_with_fault") fd := c.fun_ 43 (d := hd_d_law_with_fault)
  obtain ⟨fd_law, F_law⟩ : ∃ fd, Fun K "law" "law" s_law (He.ga K "law") fd := c.fun_ 44 (d := hd_d_law)
  have T : TX K mg := { z_len := He.free_ok X G (c.fact 0), z_all := He.free_ok X G (c.fact 1), z_sum := He.free_ok X G (c.fact 2), z_abs := He.free_ok X G (c.fact 3), z_divmod := He.free_ok X G (c.fact 4), z_isinstance := He.free_ok X G (c.fact 5), z_sorted := He.free_ok X G (c.fact 6), z_int := He.free_ok X G (c.fact 7), z_str := He.free_ok X G (c.fact 8), z_list := He.free_ok X G (c.fact 9), z_tuple := He.free_ok X G (c.fact 10), z_bool := He.free_ok X G (c.fact 11), z_set := He.free_ok X G (c.fact 12), z_range := He.free_ok X G (c.fact 13), z_enumerate := He.free_ok X G (c.fact 14), z_zip := He.free_ok X G (c.fact 15), z_max := He.free_ok X G (c.fact 16), z_min := He.free_ok X G (c.fact 17), k_ALONE := ⟨He.ga K "ALONE", He.glo_ok X G (c.fact 18), fun H => He.tupB_ok (x := "ALONE") (vs := [.str "begin", .str "late", .str "pass"]) (c.at_ 0) H⟩, k_BLOCKS := ⟨He.ga K "BLOCKS", He.glo_ok X G (c.fact 19), fun H => He.tupB_ok (x := "BLOCKS") (vs := [.str "begin", .str "late", .str "in"]) (c.at_ 1) H⟩, k_FIGURES := ⟨t_FIGURES, k_FIGURES⟩, k_INSET := ⟨t_INSET, k_INSET⟩, k_LETTERS := ⟨t_LETTERS, k_LETTERS⟩, k_MOST_FIGURES_sheet := ⟨t_MOST_FIGURES_sheet, k_MOST_FIGURES_sheet⟩, k_MOST_FIGURES_texts := ⟨t_MOST_FIGURES_texts, k_MOST_FIGURES_texts⟩, k_MOST_LETTERS := ⟨t_MOST_LETTERS, k_MOST_LETTERS⟩, k_MOST_SIGNS := ⟨t_MOST_SIGNS, k_MOST_SIGNS⟩, k_QUOTE := ⟨t_QUOTE, k_QUOTE⟩, k_SETTING := ⟨t_SETTING, k_SETTING⟩, k_STROKE := ⟨t_STROKE, k_STROKE⟩, k_TASK := ⟨t_TASK, k_TASK⟩, k_WEAVE := ⟨t_WEAVE, k_WEAVE⟩, k_WITH_NAME := ⟨He.ga K "WITH_NAME", He.glo_ok X G (c.fact 32), fun H => He.tupB_ok (x := "WITH_NAME") (vs := [.str "look", .str "back", .str "copy", .str "in"]) (c.at_ 2) H⟩, e_BadRow := { C := (He.ga K "BadRow"), C0 := (He.ga K "RoadError"), mc := .type "type", a := He.ma K (He.ga K "BadRow") "__init__", d := fd_BadRow___init__, gC := He.glo_ok X G (c.fact 33), g0 := He.glo_ok X G (c.fact 34), oex := { cls := oexB_ok (c.at_ 3), sa := He.eqO_ok (c.at_ 4), exC := of_decide_eq_true (c.at_ 5), tyC := of_decide_eq_true (c.at_ 6), kC := c.at_ 7 }, iC := He.eqO_ok (c.at_ 8), tI := of_decide_eq_true (c.at_ 9), F := F_BadRow___init__, b := (F_BadRow___init__.binds (fun _ _ _ _ _ _ us hl => match us, hl with | [_, _], _ => rfl)), noF := He.eqO_ok (c.at_ 10), hga := He.eqO_ok (c.at_ 11), hmc := of_decide_eq_true (c.at_ 12), hr := c.at_ 13, vV := fclB_ok (c.at_ 14) }, C_Known := He.ga K "Known", g_Known := He.glo_ok X G (c.fact 35), C_Missing := He.ga K "Missing", g_Missing := He.glo_ok X G (c.fact 36), C_NoSetting := He.ga K "NoSetting", g_NoSetting := He.glo_ok X G (c.fact 37), C_NoTask := He.ga K "NoTask", g_NoTask := He.glo_ok X G (c.fact 38), C_NoWorld := He.ga K "NoWorld", g_NoWorld := He.glo_ok X G (c.fact 39), z_ValueError := He.free_ok X G (c.fact 40), x_exm := of_decide_eq_true (c.at_ 15), x_xc := ⟨cls_some' (c.at_ 16), He.eqO_ok (c.at_ 17), He.eqO_ok (c.at_ 18), of_decide_eq_true (c.at_ 19), c.at_ 16, He.eqO_ok (c.at_ 20), He.eqO_ok (c.at_ 21), of_decide_eq_true (c.at_ 22), of_decide_eq_true (c.at_ 23)⟩, x_any := of_decide_eq_true (c.at_ 24), x_one := of_decide_eq_true (c.at_ 25), x_val := of_decide_eq_true (c.at_ 26), d_is_name := ⟨He.ga K "is_name", fd_is_name, F_is_name, (F_is_name.binds (fun _ _ _ _ _ _ us hl => match us, hl with | [_], _ => rfl)), He.glo_ok X G (c.fact 41)⟩, d_is_number := ⟨He.ga K "is_number", fd_is_number, F_is_number, (F_is_number.binds (fun _ _ _ _ _ _ us hl => match us, hl with | [_], _ => rfl)), He.glo_ok X G (c.fact 42)⟩, d_is_value := ⟨He.ga K "is_value", fd_is_value, F_is_value, (F_is_value.binds (fun _ _ _ _ _ _ us hl => match us, hl with | [_], _ => rfl)), He.glo_ok X G (c.fact 43)⟩, d_number_in := ⟨He.ga K "number_in", fd_number_in, F_number_in, (F_number_in.binds (fun _ _ _ _ _ _ us hl => match us, hl with | [_], _ => rfl)), He.glo_ok X G (c.fact 44)⟩, d_bare_in := ⟨He.ga K "bare_in", fd_bare_in, F_bare_in, (F_bare_in.binds (fun _ _ _ _ _ _ us hl => match us, hl with | [_], _ => rfl)), He.glo_ok X G (c.fact 45)⟩, d_text_in := ⟨He.ga K "text_in", fd_text_in, F_text_in, (F_text_in.binds (fun _ _ _ _ _ _ us hl => match us, hl with | [_], _ => rfl)), He.glo_ok X G (c.fact 46)⟩, d_value_in := ⟨He.ga K "value_in_texts", fd_value_in, F_value_in, (F_value_in.binds (fun _ _ _ _ _ _ us hl => match us, hl with | [_], _ => rfl)), He.glo_ok X G (c.fact 47)⟩, d_set_in := ⟨He.ga K "set_in", fd_set_in, F_set_in, (F_set_in.binds (fun _ _ _ _ _ _ us hl => match us, hl with | [_], _ => rfl)), He.glo_ok X G (c.fact 48)⟩, d_step_in := ⟨He.ga K "step_in", fd_step_in, F_step_in, (F_step_in.binds (fun _ _ _ _ _ _ us hl => match us, hl with | [_], _ => rfl)), He.glo_ok X G (c.fact 49)⟩, d_rows_read := ⟨He.ga K "rows_read", fd_rows_read, F_rows_read, (F_rows_read.binds (fun _ _ _ _ _ _ us hl => match us, hl with | [_, _], _ => rfl)), He.glo_ok X G (c.fact 50)⟩, d_program_at := ⟨He.ga K "program_at", fd_program_at, F_program_at, (F_program_at.binds (fun _ _ _ _ _ _ us hl => match us, hl with | [_, _, _], _ => rfl)), He.glo_ok X G (c.fact 51)⟩, d_setting_in := ⟨He.ga K "setting_in", fd_setting_in, F_setting_in, (F_setting_in.binds (fun _ _ _ _ _ _ us hl => match us, hl with | [_], _ => rfl)), He.glo_ok X G (c.fact 52)⟩, d_pick_in := ⟨He.ga K "pick_in", fd_pick_in, F_pick_in, (F_pick_in.binds (fun _ _ _ _ _ _ us hl => match us, hl with | [_], _ => rfl)), He.glo_ok X G (c.fact 53)⟩, d_picks_in := ⟨He.ga K "picks_in", fd_picks_in, F_picks_in, (F_picks_in.binds (fun _ _ _ _ _ _ us hl => match us, hl with | [_], _ => rfl)), He.glo_ok X G (c.fact 54)⟩, d_settings_in := ⟨He.ga K "settings_in", fd_settings_in, F_settings_in, (F_settings_in.binds (fun _ _ _ _ _ _ us hl => match us, hl with | [_], _ => rfl)), He.glo_ok X G (c.fact 55)⟩, d_look_settings := ⟨He.ga K "look_settings", fd_look_settings, F_look_settings, (F_look_settings.binds (fun _ _ _ _ _ _ us hl => match us, hl with | [_], _ => rfl)), He.glo_ok X G (c.fact 56)⟩, d_look_names := ⟨He.ga K "look_names", fd_look_names, F_look_names, (F_look_names.binds (fun _ _ _ _ _ _ us hl => match us, hl with | [_, _, _], _ => rfl)), He.glo_ok X G (c.fact 57)⟩, d_sheet_from := ⟨He.ga K "sheet_from", fd_sheet_from, F_sheet_from, (F_sheet_from.binds (fun _ _ _ _ _ _ us hl => match us, hl with | [_], _ => rfl)), He.glo_ok X G (c.fact 58)⟩, d_sheet_woven := ⟨He.ga K "sheet_woven", fd_sheet_woven, F_sheet_woven, (F_sheet_woven.binds (fun _ _ _ _ _ _ us hl => match us, hl with | [_], _ => rfl)), He.glo_ok X G (c.fact 59)⟩, d_answers := ⟨He.ga K "answers", fd_answers, F_answers, (F_answers.binds (fun _ _ _ _ _ _ us hl => match us, hl with | [_], _ => rfl)), He.glo_ok X G (c.fact 60)⟩, d_turns_text := ⟨He.ga K "turns_text", fd_turns_text, F_turns_text, (F_turns_text.binds (fun _ _ _ _ _ _ us hl => match us, hl with | [_], _ => rfl)), He.glo_ok X G (c.fact 61)⟩, d_law_refused := ⟨He.ga K "_law_refused", fd_law_refused, F_law_refused, (F_law_refused.binds (fun _ _ _ _ _ _ us hl => match us, hl with | [_, _], _ => rfl)), He.glo_ok X G (c.fact 62)⟩, d_law_cell_at := ⟨He.ga K "_law_cell_at", fd_law_cell_at, F_law_cell_at, (F_law_cell_at.binds (fun _ _ _ _ _ _ us hl => match us, hl with | [_, _], _ => rfl)), He.glo_ok X G (c.fact 63)⟩, d_law_box := ⟨He.ga K "_law_box", fd_law_box, F_law_box, (F_law_box.binds (fun _ _ _ _ _ _ us hl => match us, hl with | [_, _], _ => rfl)), He.glo_ok X G (c.fact 64)⟩, d_law_take := ⟨He.ga K "_law_take", fd_law_take, F_law_take, (F_law_take.binds (fun _ _ _ _ _ _ us hl => match us, hl with | [_, _], _ => rfl)), He.glo_ok X G (c.fact 65)⟩, d_law_names := ⟨He.ga K "_law_names", fd_law_names, F_law_names, (F_law_names.binds (fun _ _ _ _ _ _ us hl => match us, hl with | [_, _], _ => rfl)), He.glo_ok X G (c.fact 66)⟩, d_law_value := ⟨He.ga K "_law_value", fd_law_value, F_law_value, (F_law_value.binds (fun _ _ _ _ _ _ us hl => match us, hl with | [_], _ => rfl)), He.glo_ok X G (c.fact 67)⟩, d_law_program := ⟨He.ga K "_law_program", fd_law_program, F_law_program, (F_law_program.binds (fun _ _ _ _ _ _ us hl => match us, hl with | [_, _, _, _, _], _ => rfl)), He.glo_ok X G (c.fact 68)⟩, d_law_written := ⟨He.ga K "_law_written", fd_law_written, F_law_written, (F_law_written.binds (fun _ _ _ _ _ _ us hl => match us, hl with | [_], _ => rfl)), He.glo_ok X G (c.fact 69)⟩, d_law_rows := ⟨He.ga K "_law_rows", fd_law_rows, F_law_rows, (F_law_rows.binds (fun _ _ _ _ _ _ us hl => match us, hl with | [_, _], _ => rfl)), He.glo_ok X G (c.fact 70)⟩, d_law_same := ⟨He.ga K "_law_same", fd_law_same, F_law_same, (F_law_same.binds (fun _ _ _ _ _ _ us hl => match us, hl with | [_, _], _ => rfl)), He.glo_ok X G (c.fact 71)⟩, d_law_cut := ⟨He.ga K "_law_cut", fd_law_cut, F_law_cut, (F_law_cut.binds (fun _ _ _ _ _ _ us hl => match us, hl with | [_], _ => rfl)), He.glo_ok X G (c.fact 72)⟩, d_law_is_name := ⟨He.ga K "_law_is_name", fd_law_is_name, F_law_is_name, (F_law_is_name.binds (fun _ _ _ _ _ _ us hl => match us, hl with | [_], _ => rfl)), He.glo_ok X G (c.fact 73)⟩, d_law_number_at := ⟨He.ga K "_law_number_at", fd_law_number_at, F_law_number_at, (F_law_number_at.binds (fun _ _ _ _ _ _ us hl => match us, hl with | [_], _ => rfl)), He.glo_ok X G (c.fact 74)⟩, d_law_value_at := ⟨He.ga K "_law_value_at", fd_law_value_at, F_law_value_at, (F_law_value_at.binds (fun _ _ _ _ _ _ us hl => match us, hl with | [_], _ => rfl)), He.glo_ok X G (c.fact 75)⟩, d_law_step := ⟨He.ga K "_law_step", fd_law_step, F_law_step, (F_law_step.binds (fun _ _ _ _ _ _ us hl => match us, hl with | [_], _ => rfl)), He.glo_ok X G (c.fact 76)⟩, d_law_read := ⟨He.ga K "_law_read", fd_law_read, F_law_read, (F_law_read.binds (fun _ _ _ _ _ _ us hl => match us, hl with | [_], _ => rfl)), He.glo_ok X G (c.fact 77)⟩, d_law_built := ⟨He.ga K "_law_built", fd_law_built, F_law_built, (F_law_built.binds (fun _ _ _ _ _ _ us hl => match us, hl with | [_, _], _ => rfl)), He.glo_ok X G (c.fact 78)⟩, d_law_setting := ⟨He.ga K "_law_setting", fd_law_setting, F_law_setting, (F_law_setting.binds (fun _ _ _ _ _ _ us hl => match us, hl with | [_], _ => rfl)), He.glo_ok X G (c.fact 79)⟩, d_law_picks := ⟨He.ga K "_law_picks", fd_law_picks, F_law_picks, (F_law_picks.binds (fun _ _ _ _ _ _ us hl => match us, hl with | [_], _ => rfl)), He.glo_ok X G (c.fact 80)⟩, d_law_sheet := ⟨He.ga K "_law_sheet", fd_law_sheet, F_law_sheet, (F_law_sheet.binds (fun _ _ _ _ _ _ us hl => match us, hl with | [_], _ => rfl)), He.glo_ok X G (c.fact 81)⟩, d_law_good := ⟨He.ga K "_law_good", fd_law_good, F_law_good, (F_law_good.binds (fun _ _ _ _ _ _ us hl => match us, hl with | [_], _ => rfl)), He.glo_ok X G (c.fact 82)⟩, d_law_with_fault := ⟨He.ga K "_law_with_fault", fd_law_with_fault, F_law_with_fault, (F_law_with_fault.binds (fun _ _ _ _ _ _ us hl => match us, hl with | [_, _, _], _ => rfl)), He.glo_ok X G (c.fact 83)⟩ }
  obtain ⟨oc, od, kV, doc, pm, an, cdv, ct, osl, e, lk, hc⟩ := F_law.ex
  subst e
  exact ⟨_, fun s v => .of_eq rfl, fun base _ _ => ok_law T F_law⟩
end RS
set_option Elab.async false
set_option linter.all false
set_option maxRecDepth 100000
set_option maxHeartbeats 4000000

open PySem PySem.W PyProof.Rows in
set_option maxRecDepth 100000 in
set_option maxHeartbeats 0 in
theorem PySem.Challenge.cw_roadsettings_k73_sheets_two_at_once_holds : PySem.Challenge.rw_roadsettings_k73_sheets_two_at_once.Holds := by
  w_on; o_law
  refine HandSHeadRun.head_any (r := OpenLaw.row PySem.Challenge.rw_roadsettings_k73_sheets_two_at_once) (q := view RS.hd_R.prog [121]) (H := RS.hd_H) (ob := RS.hd_ob) (M := 12000) (loose := RS.hd_loose) (d := HandSHeadRun.topDef RS.hd_R.prog 121) (kwd := []) RS.hd_ob_eq
    (by kernel_rfl) (fun s => by kernel_rfl) RS.hd_run (by kernel_rfl) (by kernel_rfl) (by kernel_rfl) (by rfl) (by first | assumption | decide +kernel) (by decide +kernel) ⟨rfl, rfl, rfl, rfl, rfl, by decide +kernel⟩ ?hw ?hc
  case hw => w_witness2
  case hc =>
    refine L2.walk_ofE (l := PySem.Challenge.rw_roadsettings_k73_sheets_two_at_once) (n := 63) (k := 90) (x := "_law_script") (CX := L2.CX0) rfl (by decide) (by kernel_rfl) ⟨rfl, by decide, by decide⟩ ?F (fun _ _ _ _ z => z)
    intro w mg fa h Y G hmg0
    obtain ⟨K, KX, c⟩ := Y
    have hmg : mg ("law" : PySem.Str) = some (.ref fa) := by
      have e : (HandSHeadRun.topDef RS.hd_R.prog 121).name = ("law" : PySem.Str) := by kernel_rfl
      rw [← e]
      exact hmg0
    obtain ⟨fd, hb, hF⟩ := RS.all_hd (P := (PySem.Challenge.rw_roadsettings_k73_sheets_two_at_once).prog) (w := w) KX G hmg c
    exact ⟨K, fd, RS.sp_law K, KX, hb, fun H a ns hl _ hS => ⟨a, ns, rfl, hS, hl, fun _ => rfl⟩, hF⟩
